import PyProof.Rows.All
import Wide.All
import OpenK.AllK
import Wide.FinOn
import HandS.ForMost
import HandS.ForExc
import HandS.Wide
import HandS.IsInst
import HandS.Defaults
import HandS.MakeKwOnly
import HandS.Flow
import HandS.EndBits
import HandS.Style
import HandS.Conv
import HandS.Deep
import HandS.Codes
import PyProof.StrOps2
import HandS.ReplaceLit
import HandS.Iter
import HandS.SortKw
import KE.DataMinMax
import HandS.More
import HandS.DeepEq
import PyProof.NeKinds
import HandS.ExcIs
import HandS.ExcOwn
import HandS.WordsExc
import HandS.Zip
import HandS.TupAny
import HandS.NoneIn
import HandS.HotCalls
import HandS.ExcCtx
import PyProof.Seq
import HandS.OwnEq
import HandS.CallLocal
import HandS.Text
import PyProof.CollectIter
import PyProof.WalksMore
import HandS.DictComp
import PyProof.FactsAll.subtypes_4
import PyProof.FactsAll.dict_2
import HandS.Replace
import PyProof.ToksMono
import KE.KDictDisplayH
import HandS.Comp
import KE.GoesMore
import KE.GoesEnum
import KE.GoesNew
import PyProof.EqKinds
import PyProof.FactsAll.dict_1
import KE.HD2
import PySem.Challenge.RW_nestlaid_k22_names_and_holders
set_option Elab.async false
set_option linter.all false
set_option maxRecDepth 100000
set_option maxHeartbeats 0
namespace MyHead
open PySem PySem.W PySem.Calls PyProof.Rows
abbrev R : OpenRow := OpenLaw.row PySem.Challenge.rw_nestlaid_k22_names_and_holders
abbrev qv : Program := view R.prog [89]
def names : List PySem.Str := ([PySem.Str.ofString "_wall", PySem.Str.ofString "__name__", PySem.Str.ofString "NestError", PySem.Str.ofString "NoNumber", PySem.Str.ofString "NoText", PySem.Str.ofString "NoName", PySem.Str.ofString "NoStyle", PySem.Str.ofString "NoBox", PySem.Str.ofString "NoTruth", PySem.Str.ofString "NoPack", PySem.Str.ofString "NoStand", PySem.Str.ofString "NoTrack", PySem.Str.ofString "NoSpot", PySem.Str.ofString "NoTree", PySem.Str.ofString "NoWord", PySem.Str.ofString "is_whole", PySem.Str.ofString "LETTERS", PySem.Str.ofString "LONGEST", PySem.Str.ofString "is_count", PySem.Str.ofString "is_name", PySem.Str.ofString "is_share", PySem.Str.ofString "is_track", PySem.Str.ofString "are_tracks", PySem.Str.ofString "is_stretch", PySem.Str.ofString "is_spot", PySem.Str.ofString "apart", PySem.Str.ofString "may_stand", PySem.Str.ofString "are_spots", PySem.Str.ofString "NO_RIMS", PySem.Str.ofString "SIDES"] : List PySem.Str) ++ ([PySem.Str.ofString "STANDS", PySem.Str.ofString "is_part", PySem.Str.ofString "is_tie", PySem.Str.ofString "is_size", PySem.Str.ofString "is_bound", PySem.Str.ofString "is_rims", PySem.Str.ofString "Style", PySem.Str.ofString "told_fields", PySem.Str.ofString "shown_fields", PySem.Str.ofString "PACKS", PySem.Str.ofString "checked_name", PySem.Str.ofString "checked_style", PySem.Str.ofString "checked_boxes", PySem.Str.ofString "checked_gap", PySem.Str.ofString "checked_pack", PySem.Str.ofString "checked_stands", PySem.Str.ofString "Box", PySem.Str.ofString "Words", PySem.Str.ofString "Picture", PySem.Str.ofString "Row", PySem.Str.ofString "Pile", PySem.Str.ofString "Grid", PySem.Str.ofString "add_boxes", PySem.Str.ofString "told_sizes", PySem.Str.ofString "Nest", PySem.Str.ofString "names_of", PySem.Str.ofString "box_of", PySem.Str.ofString "holder_of", PySem.Str.ofString "_law_cell_at", PySem.Str.ofString "_law_mixed"] : List PySem.Str) ++ ([PySem.Str.ofString "_law_source", PySem.Str.ofString "_law_next", PySem.Str.ofString "_law_letters", PySem.Str.ofString "_law_name", PySem.Str.ofString "_law_number", PySem.Str.ofString "_law_signs", PySem.Str.ofString "_law_track", PySem.Str.ofString "_law_own", PySem.Str.ofString "_law_box", PySem.Str.ofString "_law_meet", PySem.Str.ofString "_law_spot", PySem.Str.ofString "_law_into", PySem.Str.ofString "_law_size", PySem.Str.ofString "_law_field", PySem.Str.ofString "_law_tree", PySem.Str.ofString "_law_look", PySem.Str.ofString "_law_made", PySem.Str.ofString "_law_told", PySem.Str.ofString "_law_order", PySem.Str.ofString "_law_refused", PySem.Str.ofString "_law_strange", PySem.Str.ofString "_law_right"] : List PySem.Str)
def obK (K : Params → Frag) (as : List Addr) (e : ∀ P, as = (K P).map (·.1)) (s : SharedT) : (kHook K as e).α := as.map (HeadRun.getT s)
theorem obK_ok {K : Params → Frag} {as : List Addr} {e : ∀ P, as = (K P).map (·.1)} (s : SharedT) : obK K as e s = (kHook K as e).obs s.abs := by
  show as.map (HeadRun.getT s) = as.map s.abs.heap.get?
  exact congrArg (fun f => as.map f) (funext (HeadRun.getT_eq s))
section
set_option hygiene false in
local macro_rules
  | `(tactic| o_head $H) => `(tactic| (have _k := $H; exact h _))
theorem mkK (h : ∀ r : OpenRow, r.Holds) : PySem.Challenge.rw_nestlaid_k22_names_and_holders.Holds := by
  w_on
  o_law
  k_head
end
/-- some answers of a world, to read the fragment's addresses by -/
def someP : Params := { strHash := fun _ => 0, shareClass := fun _ => 0, mergeTok := fun t => t, idOf := fun _ => 0, idOfShared := fun _ _ => 0, followText := fun _ => false, idOfImm := fun _ => 0 }
noncomputable def asK : List Addr := (mkK.heap_39 someP).map (·.1)
theorem asK_ok (P : Params) : asK = (mkK.heap_39 P).map (·.1) := by kernel_rfl
noncomputable abbrev hk : Hook := kHook mkK.heap_39 asK asK_ok
theorem run0 (w : World) : HeadRun.RunEq R qv hk (obK mkK.heap_39 asK asK_ok) 12000 names (w.withFollow "special-get-raises" false) := by
  intro os
  kernel_rfl
theorem run1 (w : World) : HeadRun.RunEq R qv hk (obK mkK.heap_39 asK asK_ok) 12000 names (w.withFollow "special-get-raises" true) := by
  intro os
  kernel_rfl
theorem enter (call : WalkO qv names (XL qv []) hk.says R.toRowW (HeadRun.topDef R.prog 89) [] (fun f vs => PySem.call f vs)) : PySem.Challenge.rw_nestlaid_k22_names_and_holders.Holds := by
  w_on; o_law
  refine HeadRun.head_any (r := R) (q := qv) (H := hk) (M := 12000) (loose := names) (d := HeadRun.topDef R.prog 89) (kwd := []) obK_ok (by kernel_rfl) (fun s => by kernel_rfl) (fun w => byRow2 "special-get-raises" (P := fun w => HeadRun.RunEq R qv hk (obK mkK.heap_39 asK asK_ok) 12000 names w) run0 run1 w) (by kernel_rfl) (by kernel_rfl) (by kernel_rfl) (by rfl) (by first | assumption | decide +kernel) (by decide +kernel) ⟨rfl, rfl, rfl, rfl, rfl, by decide +kernel⟩ ?hw call
  case hw => w_witness2
end MyHead
set_option Elab.async false
set_option linter.all false
set_option maxRecDepth 100000
set_option maxHeartbeats 4000000
namespace My
open PySem PySem.Spec PyProof.Rows L2
/-! ### a def of the top, with its facts -/
structure Df (K : PySem.W.Frag) (mg : Str → Option Value) (x : Str) (st : Stmt) (ps : List Str) where
  f : Addr
  fd : FuncData
  F : Fun K x x st f fd
  b : Binds K fd ps []
  g : mg x = some (.ref f)
def df_mk {K : PySem.W.Frag} {mg : Str → Option Value} {x : Str} {st : Stmt} {ps : List Str} {h : Heap} (X : K.In h) (G : h.Ns mainGlobals mg) {f : Addr} {oc : Value} {od an : Option Addr} {osl : Array (Option Value)} {kV doc pm cdv ct : Value}
    (a : PySem.W.nsIn K mainGlobals x = some (some (.ref f))) (l : K.lookup f = some ⟨oc, od, .func (PySem.W.fnOf x x (defArgs st) (defBody st) (defScope st) .none kV doc pm an cdv ct), osl⟩)
    (c : PySem.W.codeIn K cdv x = true) (k : PySem.W.keepIn K (.ref f) = true)
    (hb : ∀ (kV doc pm : Value) (an : Option Addr) (cdv ct : Value) (us : List Value), us.length = ps.length → bindArgs (PySem.W.fnOf x x (defArgs st) (defBody st) (defScope st) .none kV doc pm an cdv ct) ⟨us, []⟩ = pure (ps.zip us)) : Df K mg x st ps :=
  ⟨f, _, fun_mk l c k, (fun_mk l c k).binds hb, PySem.W.mg_of X G a⟩
/-! ### calls by keywords alone -/
theorem vals_getD : ∀ {zs : List V} {ws : List Value}, Vals zs ws → ∀ i : Nat, RelV (zs.getD i .non) (ws.getD i .none)
  | _, _, .nil, i => rfl
  | _, _, .cons r t, 0 => r
  | _, _, .cons r t, i + 1 => by simpa using vals_getD t i
section
variable {X : Cx} {CX : CXT} {k n : Nat} {f C : Addr} {fd : FuncData} {ps ks : List Str} {sp : Sp} {E : XK} {x : Str} {p pos : Pos} {kws : List Keyword} {t tk : TA} {g : List Value → List Value → List Value} {gV : List V → List V → List V}
/-- f(k = v, ..) -/
theorem pe_callN0 (F : FnOk X.prog X.w X.K X.mg X.base CX k f fd ps sp) (hr : Room k X.A) (hg : Gl X x) (hm : X.mg x = some (.ref f)) (hk : PySem.W.keepIn X.K (.ref f) = true) (hb : KBn X.K fd ps 0 ks g gV) (hx : Passes CX X E) (hkw : PK X kws tk)
    (hall : (backToKw pos (keywordEach kws X.env)).all (·.1.isSome) = true := by rfl) (hks : (backToKw pos (keywordEach kws X.env)).filterMap (·.1) = ks := by rfl) (hdb : (x == ("__debug__" : Str)) = false := by decide)
    (hpl : ((backTo pos (starEach [] X.env)).any (·.1) || (backToKw pos (keywordEach kws X.env)).any (·.1.isNone)) = false := by rfl) :
    PE X (.Call (.Name x p) [] kws pos) (tCallN 0 ks.length sp gV E tNil tk) := by
  refine ⟨fun pins s σ H Q I h => ?_⟩
  refine wpAny_Call_Name_kw (ld_glob I hg hm ?_ hdb)
  refine PySem.W.callWith_KW0 (h₀ := X.base) I.ok.mod.kin hk hall ?_ hpl
  refine thn (hkw.run pos pins s σ H _ I h) fun ws s2 ⟨zs, H2, I2, rz, l1, l2, q2⟩ => ⟨I2.kIn, ?_⟩
  rw [hks]
  exact run_fnN (us := []) (vs := []) F hr hb hx I2 .nil rz rfl l2 q2
end
/-! ### heaps -/
/-- all that was tracked but at a is as it was -/
def But (a : Addr) (H H' : Hp) : Prop := ∀ b o, b ≠ a → H b = some o → H' b = some o
theorem But.app {a b : Addr} {H H' : Hp} {o : HO} (s : But a H H') (n : b ≠ a) (h : H b = some o) : H' b = some o := s _ _ n h
theorem But.refl {a : Addr} {H : Hp} : But a H H := fun _ _ _ h => h
theorem But.trans {a : Addr} {H H1 H2 : Hp} (s : But a H H1) (t : But a H1 H2) : But a H H2 := fun b o n h => t b o n (s b o n h)
theorem But.upd {a : Addr} {H H1 : Hp} {o : HO} (s : But a H H1) : But a H (upd H1 a o) := fun b u n h => by
  rw [upd_ne n]
  exact s b u n h
theorem But.new {a p : Addr} {H H1 : Hp} {o : HO} (s : But a H H1) (h : H1 p = none) : But a H (L2.upd H1 p o) := fun b u n e => by
  have e1 := s b u n e
  rw [upd_ne (ne_of_none e1 h)]
  exact e1
theorem Same.but {a : Addr} {H H1 : Hp} (s : Same H H1) : But a H H1 := fun b u n h => s b u h
theorem Same.app {b : Addr} {H H' : Hp} {o : HO} (s : Same H H') (h : H b = some o) : H' b = some o := s _ _ h
theorem Same.new {H H1 : Hp} {p : Addr} {o : HO} (s : Same H H1) (h : H1 p = none) : Same H (upd H1 p o) := fun b u e => by
  have e1 := s b u e
  rw [upd_ne (ne_of_none e1 h)]
  exact e1
theorem Same.mut {H H1 : Hp} {p : Addr} {o : HO} (s : Same H H1) (h : H p = none) : Same H (upd H1 p o) := fun b u e => by
  rw [upd_ne (ne_of_none e h)]
  exact s b u e
theorem But.seq {K : PySem.W.Frag} {H H' : Hp} {a b : Addr} {xs : List V} (e : But a H H') (n : b ≠ a) (h : SqL K H b xs) : SqL K H' b xs := by
  rcases h with (h | ⟨o, h⟩) | h
  · exact .inl (.inl (e _ _ n h))
  · exact .inl (.inr ⟨o, e _ _ n h⟩)
  · exact .inr h
theorem upd_keep {H : Hp} {a p : Addr} {o u : HO} (n : H p = none) (h : H a = some o) : upd H p u a = some o := (upd_ne (ne_of_none h n)).trans h
theorem Same.upd0 {H : Hp} {p : Addr} {o : HO} (n : H p = none) : Same H (upd H p o) := fun b u e => upd_keep n e
theorem sqL {K : PySem.W.Frag} {H : Hp} {a : Addr} {xs : List V} (h : H a = some (.lst xs)) : SqL K H a xs := .inl (.inl h)
theorem sqT {K : PySem.W.Frag} {H : Hp} {a : Addr} {xs : List V} (h : H a = some (.tup xs)) : SqT K H a xs := .inl (.inl h)
/-! ### new and changed objects, the heap behind them by a name -/
def New (H : Hp) (o : HO) (Q : VK) : Prop := ∀ p H', H p = none → Same H H' → H' p = some o → Q (.ref p) H'
theorem New.go {H : Hp} {o : HO} {Q : VK} (h : New H o Q) : ∀ p, H p = none → Q (.ref p) (upd H p o) := fun p n => h p _ n (Same.upd0 n) upd_same
/-- what stands at l becomes o -/
def Set1 (H : Hp) (l : Addr) (o : HO) (q : Hp → Prop) : Prop := ∀ H', But l H H' → H' l = some o → q H'
theorem Set1.go {H : Hp} {l : Addr} {o : HO} {q : Hp → Prop} (h : Set1 H l o q) : q (upd H l o) := h _ But.refl.upd upd_same
theorem pe_imp {X : Cx} {e : Expr} {t t' : TE} (h : PE X e t) (i : ∀ σ H Q, t' σ H Q → t σ H Q) : PE X e t' := ⟨fun pins s σ H Q I h' => h.run pins s σ H Q I (i _ _ _ h')⟩
theorem opR_imp {X : Cx} {f : Value → Value → Sem Value} {r r' : R2} (h : OpR X f r) (i : ∀ x y H Q, r' x y H Q → r x y H Q) : OpR X f r' := fun pins s σ H x y v u Q I rx ry q => h pins s σ H x y v u Q I rx ry (i _ _ _ _ q)
theorem callR_imp {X : Cx} {f : Value} {r r' : List V → Hp → VK → Prop} (h : CallR X f r) (i : ∀ xs H Q, r' xs H Q → r xs H Q) : CallR X f r' := fun pins s σ H xs us Q I rx q => h pins s σ H xs us Q I rx (i _ _ _ q)
theorem slR_imp {X : Cx} {r r' : V → Option Int → Option Int → Hp → VK → Prop} (h : SlR X r) (i : ∀ x lo hi H Q, r' x lo hi H Q → r x lo hi H Q) : SlR X r' := fun pins s σ H x v vl vu lo hi sl Q I rx a b c q => h pins s σ H x v vl vu lo hi sl Q I rx a b c (i _ _ _ _ _ q)
theorem mtM_imp {X : Cx} {id : String} {r r' : V → List V → Hp → VK → Prop} (h : MtM X id r) (i : ∀ x xs H Q, r' x xs H Q → r x xs H Q) : MtM X id r' := fun pins s σ H x xs v us Q I rx rv q => h pins s σ H x xs v us Q I rx rv (i _ _ _ _ q)
theorem pSet_imp {X : Cx} {r r' : TSet} (h : PSet X r) (i : ∀ x y z H Q, r' x y z H Q → r x y z H Q) : PSet X r' := fun pins s σ H o i' v ov iv u Q I a b c q => h pins s σ H o i' v ov iv u Q I a b c (i _ _ _ _ _ q)
section
variable {X : Cx} {es : List Expr} {t : TA} {pos : Pos}
/-- a tuple, a list -/
def tTupA (t : TA) : TE := fun σ H Q => t σ H fun xs H1 => xs.length ≤ sizeLine ∧ New H1 (.tup xs) Q
def tLstA (t : TA) : TE := fun σ H Q => t σ H fun xs H1 => xs.length ≤ sizeLine ∧ New H1 (.lst xs) Q
theorem pe_tupA {x1} (h : PA X es t) : PE X (.Tuple es x1 pos) (tTupA t) := by
  refine ⟨fun pins s σ H Q I hq => ?_⟩
  refine wpAny_Tuple_spliced (thn (h.run pos pins s σ H _ I hq) fun us s1 ⟨xs, H1, I1, r, z, q⟩ => ⟨by rw [← r.length]; exact z, ?_⟩)
  have hf : H1 s1.heap.objs.size = none := I1.hok.fresh (Nat.le_refl _)
  refine ⟨.ref s1.heap.objs.size, upd H1 s1.heap.objs.size (.tup xs), I1.laid (t' := s1.toks) (fun b u e => Heap.get?_push_of_some _ e) (Nat.le_refl _) ?_, rfl, q.go _ hf⟩
  exact ⟨z, us, r, ⟨_, Heap.get?_push_size _ rfl, rfl, _, rfl⟩⟩
theorem pe_lstA (h : PA X es t) : PE X (.List es pos) (tLstA t) := by
  refine ⟨fun pins s σ H Q I hq => ?_⟩
  refine wpAny_List_spliced (thn (h.run pos pins s σ H _ I hq) fun us s1 ⟨xs, H1, I1, r, z, q⟩ => ⟨by rw [← r.length]; exact z, ?_⟩)
  have hf : H1 s1.heap.objs.size = none := I1.hok.fresh (Nat.le_refl _)
  refine ⟨.ref s1.heap.objs.size, upd H1 s1.heap.objs.size (.lst xs), I1.laid (t' := s1.toks) (fun b u e => Heap.get?_push_of_some _ e) (Nat.le_refl _) ?_, rfl, q.go _ hf⟩
  exact ⟨z, us, 0, r, Heap.get?_push_size _ rfl⟩
def tDNewA : TE := fun _ H Q => New H (.dK []) Q
theorem pe_dnewA : PE X (.Dict [] [] pos) tDNewA := pe_imp pe_dnewK fun _ _ _ h => h.go
/-- list + list, list * n -/
def rCatA (K : PySem.W.Frag) : R2 := fun x y H Q => ∃ l b xs zs, x = .ref l ∧ y = .ref b ∧ H l = some (.lst xs) ∧ H b = some (.lst zs) ∧ xs.length + zs.length ≤ sizeLine ∧ New H (.lst (xs ++ zs)) Q
theorem op_catA : OpR X (binaryOp .Add) (rCatA X.K) := opR_imp op_cat fun _ _ _ _ ⟨l, b, xs, zs, e1, e2, h1, h2, z, q⟩ => ⟨l, b, xs, zs, e1, e2, h1, h2, z, q.go⟩
def rRepA : R2 := fun x y H Q => ∃ l k xs, x = .ref l ∧ y = .int k ∧ H l = some (.lst xs) ∧ -(2 ^ 63) ≤ k ∧ k < 2 ^ 63 ∧ xs.length * k.toNat ≤ sizeLine ∧ New H (.lst (List.replicate k.toNat xs).flatten) Q
theorem op_repA : OpR X (binaryOp .Mult) rRepA := opR_imp op_rep fun _ _ _ _ ⟨l, k, xs, e1, e2, h1, h2, h3, z, q⟩ => ⟨l, k, xs, e1, e2, h1, h2, h3, z, q.go⟩
def rSlA (K : PySem.W.Frag) : V → Option Int → Option Int → Hp → VK → Prop := fun x lo hi H Q => ∃ a xs, x = .ref a ∧ SqL K H a xs ∧ New H (.lst (cutV xs lo hi)) Q
theorem sl_listA : SlR X (rSlA X.K) := slR_imp sl_list fun _ _ _ _ _ ⟨a, xs, e, h1, q⟩ => ⟨a, xs, e, h1, q.go⟩
def rListA (K : PySem.W.Frag) : List V → Hp → VK → Prop := fun xs H Q => ∃ p ys, xs = [.ref p] ∧ (SqL K H p ys ∨ SqT K H p ys) ∧ New H (.lst ys) Q
theorem call_listA : CallR X (.type "list") (rListA X.K) := callR_imp call_list_of fun _ _ _ ⟨p, ys, e, h, q⟩ => ⟨p, ys, e, h, q.go⟩
/-- tuple(a list) -/
def rTupLA (K : PySem.W.Frag) : List V → Hp → VK → Prop := fun xs H Q => ∃ p ys, xs = [.ref p] ∧ SqL K H p ys ∧ New H (.tup ys) Q
theorem call_tupLA : CallR X (.type "tuple") (rTupLA X.K) := callR_imp call_tuple_of fun _ _ _ ⟨p, ys, e, h, q⟩ => ⟨p, ys, e, .inl ⟨h, q.go⟩⟩
def rSetA : V → V → V → Hp → (Hp → Prop) → Prop := fun o i v H Q => ∃ p xs k j, o = .ref p ∧ i = .int k ∧ H p = some (.lst xs) ∧ ixN xs.length k = some j ∧ Set1 H p (.lst (xs.set j v)) Q
theorem set_listA : PSet X rSetA := pSet_imp set_list fun _ _ _ _ _ ⟨p, xs, k, j, e1, e2, h1, h2, q⟩ => ⟨p, xs, k, j, e1, e2, h1, h2, q.go⟩
def rAppendA : V → List V → Hp → VK → Prop := fun x vs H Q => ∃ l xs y, x = .ref l ∧ vs = [y] ∧ H l = some (.lst xs) ∧ xs.length < sizeLine ∧ Set1 H l (.lst (xs ++ [y])) (Q .non)
def rClearA : V → List V → Hp → VK → Prop := fun x vs H Q => ∃ l xs, x = .ref l ∧ vs = [] ∧ H l = some (.lst xs) ∧ Set1 H l (.lst []) (Q .non)
theorem mt_clearA : MtM X "list.clear" rClearA := mtM_imp mt_clear fun _ _ _ _ ⟨l, xs, e1, e2, h1, q⟩ => ⟨l, xs, e1, e2, h1, q.go⟩
theorem mt_appendA : MtM X "list.append" rAppendA := mtM_imp mt_append fun _ _ _ _ ⟨l, xs, y, e1, e2, h1, h2, q⟩ => ⟨l, xs, y, e1, e2, h1, h2, q.go⟩
end
theorem cutV_mem {xs : List V} {lo hi : Option Int} {x : V} (h : x ∈ cutV xs lo hi) : x ∈ xs := List.mem_of_mem_drop (List.mem_of_mem_take h)
theorem int_of_map {ns : List Int} {i : Nat} {y : V} (h : (ns.map V.int)[i]? = some y) : ∃ z, ns[i]? = some z ∧ y = .int z := by
  rw [List.getElem?_map] at h
  cases e : ns[i]? with
  | none => rw [e] at h; cases h
  | some z => rw [e] at h; exact ⟨z, rfl, (Option.some.inj h).symm⟩
/-- the law's numbers: the first one (0 without), and some more -/
theorem cells_ints {c : Int} {ns : List Int} {lo hi : Option Int} {i : Nat} {y : V} (h : ([V.int c] ++ cutV (ns.map V.int) lo hi)[i]? = some y) : ∃ z, y = .int z := by
  have m := List.mem_of_getElem? h
  rcases List.mem_append.mp m with m | m
  · exact ⟨c, by simpa using m⟩
  · have m2 := cutV_mem m
    obtain ⟨z, _, e⟩ := List.mem_map.mp m2
    exact ⟨z, e.symm⟩
theorem cells_len {ns : List Int} {lo hi : Option Int} (h : ns.length ≤ 63) : ([V.int 0] : List V).length + (cutV (ns.map V.int) lo hi).length ≤ sizeLine := by
  have h1 := cutV_length (ns.map V.int) lo hi
  rw [List.length_map] at h1
  exact Nat.le_trans (by show 1 + _ ≤ 100; omega) (by decide)
/-! ### kinds -/
def isI : V → Bool
  | .int _ => true
  | _ => false
def isN : V → Bool
  | .int i => decide (0 ≤ i)
  | _ => false
def isB : V → Bool
  | .bl _ => true
  | _ => false
/-- a value of one of the plain kinds -/
inductive Ty7 (H : Hp) : V → String → Prop where
  | non : Ty7 H .non "NoneType"
  | bl (b : Bool) : Ty7 H (.bl b) "bool"
  | int (i : Int) : Ty7 H (.int i) "int"
  | str (x : Str) : Ty7 H (.str x) "str"
  | lst {a : Addr} {xs : List V} (h : H a = some (.lst xs)) : Ty7 H (.ref a) "list"
  | tup {a : Addr} {xs : List V} (h : H a = some (.tup xs)) : Ty7 H (.ref a) "tuple"
  | dK {a : Addr} {xs : List (Key × V)} (h : H a = some (.dK xs)) : Ty7 H (.ref a) "dict"
section
variable {K : PySem.W.Frag} {H H' : Hp} {x : V} {t : String}
theorem Ty7.tx (h : Ty7 H x t) : TyX K H x (.type t) := by
  cases h with
  | non => exact .base .non
  | bl b => exact .base (.bl b)
  | int i => exact .base (.int i)
  | str i => exact .base (.str i)
  | lst h => exact .base (.lst h)
  | tup h => exact .base (.tup h)
  | dK h => exact .base (.dK h)
theorem Ty7.ki (h : Ty7 H x t) : kitB t "int" = some (isI x || isB x) := by
  cases h <;> (simp only [isI, isB]; decide +kernel)
theorem Ty7.kb (h : Ty7 H x t) : kitB t "bool" = some (isB x) := by
  cases h <;> (simp only [isB]; decide +kernel)
theorem Ty7.kl (h : Ty7 H x t) : kitB t "list" = some (decide (t = "list")) := by
  cases h <;> decide +kernel
theorem Ty7.kt (h : Ty7 H x t) : kitB t "tuple" = some (decide (t = "tuple")) := by
  cases h <;> decide +kernel
theorem Ty7.ks (h : Ty7 H x t) : kitB t "str" = some (decide (t = "str")) := by
  cases h <;> decide +kernel
theorem Ty7.mono (h : Ty7 H x t) (s : Same H H') : Ty7 H' x t := by
  cases h with
  | non => exact .non
  | bl b => exact .bl b
  | int i => exact .int i
  | str i => exact .str i
  | lst h => exact .lst (s _ _ h)
  | tup h => exact .tup (s _ _ h)
  | dK h => exact .dK (s _ _ h)
end
theorem isI_of : ∀ {x : V}, isI x = true → ∃ i, x = .int i
  | .int i, _ => ⟨i, rfl⟩
theorem isI_bool {x : V} (h : (isI x || isB x) = true) : (!isB x) = isI x := by
  cases x <;> simp_all [isI, isB]
theorem isI_no {x : V} (h : ¬ (isI x || isB x) = true) : false = isI x := by
  cases x <;> simp_all [isI, isB]
def heldM (n l : Int) (m : Option Int) : Int := max (match m with | some m => min n m | none => n) l
def optI : Option Int → V
  | some i => .int i
  | none => .non
/-- the law's source of draws: three whole numbers -/
def src (s : Int × Int × Int) : HO := .lst [.int s.1, .int s.2.1, .int s.2.2]
/-! ### draws: only the source at a changes -/
def Src (H : Hp) (a : Addr) : Prop := ∃ s, H a = some (src s)
structure Dr (a : Addr) (H H' : Hp) : Prop where
  s : Src H' a
  b : But a H H'
theorem Dr.app {a b : Addr} {H H' : Hp} {o : HO} (d : Dr a H H') (n : b ≠ a) (h : H b = some o) : H' b = some o := d.b _ _ n h
theorem Dr.trans {a : Addr} {H H1 H2 : Hp} (d : Dr a H H1) (e : Dr a H1 H2) : Dr a H H2 := ⟨e.s, d.b.trans e.b⟩
theorem Dr.same {a : Addr} {H H1 H2 : Hp} (d : Dr a H H1) (e : Same H1 H2) : Dr a H H2 := ⟨let ⟨s, h⟩ := d.s; ⟨s, e _ _ h⟩, d.b.trans (Same.but e)⟩
theorem Dr.of {a : Addr} {H H1 : Hp} (h : Src H a) (e : Same H H1) : Dr a H H1 := ⟨let ⟨s, h⟩ := h; ⟨s, e _ _ h⟩, Same.but e⟩
theorem Dr.refl {a : Addr} {H : Hp} (h : Src H a) : Dr a H H := ⟨h, But.refl⟩
/-- a list that was not there may change -/
theorem Dr.mut {a l : Addr} {H H1 H2 : Hp} (d : Dr a H H1) (e : But l H1 H2) (n : H l = none) (na : a ≠ l) : Dr a H H2 :=
  ⟨let ⟨s, h⟩ := d.s; ⟨s, e _ _ na h⟩, fun b o nb h => e _ _ (ne_of_none h n) (d.b _ _ nb h)⟩
theorem Same.mut' {l : Addr} {H H1 H2 : Hp} (d : Same H H1) (e : But l H1 H2) (n : H l = none) : Same H H2 := fun b o h => e _ _ (ne_of_none h n) (d _ _ h)
theorem Src.same {a : Addr} {H H1 : Hp} (h : Src H a) (e : Same H H1) : Src H1 a := let ⟨s, h⟩ := h; ⟨s, e _ _ h⟩
theorem Src.but {a l : Addr} {H H1 : Hp} (h : Src H a) (e : But l H H1) (n : a ≠ l) : Src H1 a := let ⟨s, h⟩ := h; ⟨s, e _ _ n h⟩
theorem Src.ne {a p : Addr} {H : Hp} (h : Src H a) (n : H p = none) : p ≠ a := let ⟨_, h⟩ := h; (ne_of_none h n).symm
theorem Src.of {a : Addr} {H : Hp} {s : Int × Int × Int} (h : H a = some (src s)) : Src H a := ⟨s, h⟩
theorem Dr.free {a l : Addr} {H H' : Hp} (d : Dr a H H') (h : H' l = none) (n : l ≠ a) : H l = none := by
  cases q : H l with
  | none => rfl
  | some o => rw [d.b _ _ n q] at h; cases h
theorem Dr.seq {K : PySem.W.Frag} {H H' : Hp} {a b : Addr} {xs : List V} (e : Dr a H H') (n : b ≠ a) (h : SqL K H b xs) : SqL K H' b xs := e.b.seq n h
/-! ### comprehensions: P by the turn, the items so far, the heap; the item's end by a continuation of any kind -/
section
variable {K : PySem.W.Frag} {a b : Addr} {xs zs : List V} {g : TG} {tt : TT} {te : TE} {vs : List Nat} {σ : L2.St} {H1 : Hp} {D : Addr} {Qd : Hp → Prop}
/-- what an item's turn is to end in -/
abbrev LcT (g : TG) (tt : TT) (te : TE) (vs : List Nat) (σ : L2.St) (x : V) (H : Hp) (Kt : V → Hp → Prop) (Kf : Hp → Prop) : Prop :=
  g x (wipe σ vs) H fun σ2 H2 => wipe σ2 vs = wipe σ vs ∧ tt σ2 H2 fun b H3 => if b = true then te σ2 H3 Kt else Kf H3
/-- the ends of a turn -/
structure LcK (D : Addr) (P : List V → Hp → Prop) (acc : List V) (Kt : V → Hp → Prop) (Kf : Hp → Prop) : Prop where
  yes : ∀ y H4, H4 D = some (.lst acc) → acc.length < sizeLine → (∀ H5, But D H4 H5 → H5 D = some (.lst (acc ++ [y])) → P (acc ++ [y]) H5) → Kt y H4
  no : ∀ H3, H3 D = some (.lst acc) → P acc H3 → Kf H3
theorem lcL (P : Nat → List V → Hp → Prop) (h0 : ∀ H', Same H1 H' → H' D = some (.lst []) → P 0 [] H') (hD : H1 D = none) (hl : ∀ i acc H, P i acc H → SqL K H a xs)
    (hs : ∀ i x acc H Kt Kf, xs[i]? = some x → P i acc H → H D = some (.lst acc) → LcK D (P (i + 1)) acc Kt Kf → LcT g tt te vs σ x H Kt Kf)
    (hd : ∀ acc H, P xs.length acc H → H D = some (.lst acc) → Qd H) :
    ∃ W : Nat → Nat → Hp → Prop, (∃ m, W 0 m (upd H1 D (.lst []))) ∧ ∀ i m H, W i m H →
      ((Itl K a).stop i H ∧ Qd H) ∨ ((Itl K a).go i H ∧ ∃ Nx : Hp → Prop, (∀ H', Nx H' → ∃ m', m' < m ∧ W (i + 1) m' H') ∧ ∀ x H', (Itl K a).yld i H x H' → g x (wipe σ vs) H' fun σ2 H2 => wipe σ2 vs = wipe σ vs ∧ tt σ2 H2 fun b H3 =>
        if b = true then te σ2 H3 fun y H4 => ∃ acc, H4 D = some (.lst acc) ∧ acc.length < sizeLine ∧ Nx (upd H4 D (.lst (acc ++ [y]))) else Nx H3) :=
  lc_list (xs := xs) (fun i H => ∃ acc, H D = some (.lst acc) ∧ P i acc H) ⟨[], upd_same, h0 _ (Same.upd0 hD) upd_same⟩ (fun i H _ ⟨acc, _, p⟩ => hl i acc H p)
    (fun i x H hx ⟨acc, e, p⟩ => hs i x acc H _ _ hx p e ⟨fun y H4 e4 z k => ⟨acc, e4, z, acc ++ [y], upd_same, k _ But.refl.upd upd_same⟩, fun H3 e3 k => ⟨acc, e3, k⟩⟩) (fun H ⟨acc, e, p⟩ => hd acc H p e)
theorem lcT (P : Nat → List V → Hp → Prop) (h0 : ∀ H', Same H1 H' → H' D = some (.lst []) → P 0 [] H') (hD : H1 D = none) (hl : ∀ i acc H, P i acc H → SqT K H a xs)
    (hs : ∀ i x acc H Kt Kf, xs[i]? = some x → P i acc H → H D = some (.lst acc) → LcK D (P (i + 1)) acc Kt Kf → LcT g tt te vs σ x H Kt Kf)
    (hd : ∀ acc H, P xs.length acc H → H D = some (.lst acc) → Qd H) :
    ∃ W : Nat → Nat → Hp → Prop, (∃ m, W 0 m (upd H1 D (.lst []))) ∧ ∀ i m H, W i m H →
      ((Itt K a).stop i H ∧ Qd H) ∨ ((Itt K a).go i H ∧ ∃ Nx : Hp → Prop, (∀ H', Nx H' → ∃ m', m' < m ∧ W (i + 1) m' H') ∧ ∀ x H', (Itt K a).yld i H x H' → g x (wipe σ vs) H' fun σ2 H2 => wipe σ2 vs = wipe σ vs ∧ tt σ2 H2 fun b H3 =>
        if b = true then te σ2 H3 fun y H4 => ∃ acc, H4 D = some (.lst acc) ∧ acc.length < sizeLine ∧ Nx (upd H4 D (.lst (acc ++ [y]))) else Nx H3) :=
  lc_tup (xs := xs) (fun i H => ∃ acc, H D = some (.lst acc) ∧ P i acc H) ⟨[], upd_same, h0 _ (Same.upd0 hD) upd_same⟩ (fun i H _ ⟨acc, _, p⟩ => hl i acc H p)
    (fun i x H hx ⟨acc, e, p⟩ => hs i x acc H _ _ hx p e ⟨fun y H4 e4 z k => ⟨acc, e4, z, acc ++ [y], upd_same, k _ But.refl.upd upd_same⟩, fun H3 e3 k => ⟨acc, e3, k⟩⟩) (fun H ⟨acc, e, p⟩ => hd acc H p e)
theorem lcR {lo : Int} {n : Nat} (P : Nat → List V → Hp → Prop) (h0 : ∀ H', Same H1 H' → H' D = some (.lst []) → P 0 [] H') (hD : H1 D = none)
    (hs : ∀ i acc H Kt Kf, i < n → P i acc H → H D = some (.lst acc) → LcK D (P (i + 1)) acc Kt Kf → LcT g tt te vs σ (.int (lo + i)) H Kt Kf)
    (hd : ∀ acc H, P n acc H → H D = some (.lst acc) → Qd H) :
    ∃ W : Nat → Nat → Hp → Prop, (∃ m, W 0 m (upd H1 D (.lst []))) ∧ ∀ i m H, W i m H →
      ((Itr lo n).stop i H ∧ Qd H) ∨ ((Itr lo n).go i H ∧ ∃ Nx : Hp → Prop, (∀ H', Nx H' → ∃ m', m' < m ∧ W (i + 1) m' H') ∧ ∀ x H', (Itr lo n).yld i H x H' → g x (wipe σ vs) H' fun σ2 H2 => wipe σ2 vs = wipe σ vs ∧ tt σ2 H2 fun b H3 =>
        if b = true then te σ2 H3 fun y H4 => ∃ acc, H4 D = some (.lst acc) ∧ acc.length < sizeLine ∧ Nx (upd H4 D (.lst (acc ++ [y]))) else Nx H3) :=
  lc_range (fun i H => ∃ acc, H D = some (.lst acc) ∧ P i acc H) ⟨[], upd_same, h0 _ (Same.upd0 hD) upd_same⟩
    (fun i H hx ⟨acc, e, p⟩ => hs i acc H _ _ hx p e ⟨fun y H4 e4 z k => ⟨acc, e4, z, acc ++ [y], upd_same, k _ But.refl.upd upd_same⟩, fun H3 e3 k => ⟨acc, e3, k⟩⟩) (fun H ⟨acc, e, p⟩ => hd acc H p e)
/-- over enumerate: the pair is a new tuple -/
theorem lcE (P : Nat → List V → Hp → Prop) (h0 : ∀ H', Same H1 H' → H' D = some (.lst []) → P 0 [] H') (hD : H1 D = none) (hl : ∀ i acc H, P i acc H → SqL K H a xs)
    (hs : ∀ i x acc H T H' Kt Kf, xs[i]? = some x → P i acc H → H D = some (.lst acc) → H T = none → Same H H' → H' T = some (.tup [.int (i : Nat), x]) → LcK D (P (i + 1)) acc Kt Kf → LcT g tt te vs σ (.ref T) H' Kt Kf)
    (hd : ∀ acc H, P xs.length acc H → H D = some (.lst acc) → Qd H) :
    ∃ W : Nat → Nat → Hp → Prop, (∃ m, W 0 m (upd H1 D (.lst []))) ∧ ∀ i m H, W i m H →
      ((Ite K a).stop i H ∧ Qd H) ∨ ((Ite K a).go i H ∧ ∃ Nx : Hp → Prop, (∀ H', Nx H' → ∃ m', m' < m ∧ W (i + 1) m' H') ∧ ∀ x H', (Ite K a).yld i H x H' → g x (wipe σ vs) H' fun σ2 H2 => wipe σ2 vs = wipe σ vs ∧ tt σ2 H2 fun b H3 =>
        if b = true then te σ2 H3 fun y H4 => ∃ acc, H4 D = some (.lst acc) ∧ acc.length < sizeLine ∧ Nx (upd H4 D (.lst (acc ++ [y]))) else Nx H3) := by
  refine ⟨fun i m H => m = xs.length - i ∧ i ≤ xs.length ∧ ∃ acc, H D = some (.lst acc) ∧ P i acc H, ⟨xs.length, rfl, Nat.zero_le _, [], upd_same, h0 _ (Same.upd0 hD) upd_same⟩, ?_⟩
  rintro i m H ⟨rfl, hi, acc, e, p⟩
  have q := hl i acc H p
  by_cases hlt : i < xs.length
  · refine .inr ⟨⟨xs, xs[i], q, by simp [hlt]⟩, fun H => ∃ acc, H D = some (.lst acc) ∧ P (i + 1) acc H, fun H' p' => ⟨xs.length - (i + 1), by omega, rfl, hlt, p'⟩, fun v H' y => ?_⟩
    obtain ⟨T, x, rfl, nT, rfl, hx⟩ := y
    exact hs i x acc H T _ _ _ (hx xs q) p e nT (Same.upd0 nT) upd_same ⟨fun y H4 e4 z k => ⟨acc, e4, z, acc ++ [y], upd_same, k _ But.refl.upd upd_same⟩, fun H3 e3 k => ⟨acc, e3, k⟩⟩
  · have ei : i = xs.length := by omega
    subst ei
    exact .inl ⟨⟨xs, q, Nat.le_refl _⟩, hd acc H p e⟩
/-- over zip of two lists of one length -/
theorem lcZ (hlen : xs.length = zs.length) (P : Nat → List V → Hp → Prop) (h0 : ∀ H', Same H1 H' → H' D = some (.lst []) → P 0 [] H') (hD : H1 D = none) (hl : ∀ i acc H, P i acc H → SqL K H a xs ∧ SqL K H b zs)
    (hs : ∀ i x z acc H T H' Kt Kf, xs[i]? = some x → zs[i]? = some z → P i acc H → H D = some (.lst acc) → H T = none → Same H H' → H' T = some (.tup [x, z]) → LcK D (P (i + 1)) acc Kt Kf → LcT g tt te vs σ (.ref T) H' Kt Kf)
    (hd : ∀ acc H, P xs.length acc H → H D = some (.lst acc) → Qd H) :
    ∃ W : Nat → Nat → Hp → Prop, (∃ m, W 0 m (upd H1 D (.lst []))) ∧ ∀ i m H, W i m H →
      ((Itz K a b).stop i H ∧ Qd H) ∨ ((Itz K a b).go i H ∧ ∃ Nx : Hp → Prop, (∀ H', Nx H' → ∃ m', m' < m ∧ W (i + 1) m' H') ∧ ∀ x H', (Itz K a b).yld i H x H' → g x (wipe σ vs) H' fun σ2 H2 => wipe σ2 vs = wipe σ vs ∧ tt σ2 H2 fun b H3 =>
        if b = true then te σ2 H3 fun y H4 => ∃ acc, H4 D = some (.lst acc) ∧ acc.length < sizeLine ∧ Nx (upd H4 D (.lst (acc ++ [y]))) else Nx H3) := by
  refine ⟨fun i m H => m = xs.length - i ∧ i ≤ xs.length ∧ ∃ acc, H D = some (.lst acc) ∧ P i acc H, ⟨xs.length, rfl, Nat.zero_le _, [], upd_same, h0 _ (Same.upd0 hD) upd_same⟩, ?_⟩
  rintro i m H ⟨rfl, hi, acc, e, p⟩
  obtain ⟨q1, q2⟩ := hl i acc H p
  by_cases hlt : i < xs.length
  · have hlt2 : i < zs.length := by omega
    refine .inr ⟨⟨xs, zs, xs[i], zs[i], q1, q2, by simp [hlt], by simp [hlt2]⟩, fun H => ∃ acc, H D = some (.lst acc) ∧ P (i + 1) acc H, fun H' p' => ⟨xs.length - (i + 1), by omega, rfl, hlt, p'⟩, fun v H' y => ?_⟩
    obtain ⟨T, x, z, rfl, nT, rfl, hx, hz⟩ := y
    exact hs i x z acc H T _ _ _ (hx xs q1) (hz zs q2) p e nT (Same.upd0 nT) upd_same ⟨fun y H4 e4 z k => ⟨acc, e4, z, acc ++ [y], upd_same, k _ But.refl.upd upd_same⟩, fun H3 e3 k => ⟨acc, e3, k⟩⟩
  · have ei : i = xs.length := by omega
    subst ei
    exact .inl ⟨⟨xs, zs, q1, q2, .inl (Nat.le_refl _)⟩, hd acc H p e⟩
/-- items that hang on the item alone (what stands, stands): the list of those that are told -/
def lcYs (n : Nat) (ys : Nat → Option V) : List V := (List.range n).filterMap ys
theorem lcYs_succ (n : Nat) (ys : Nat → Option V) : lcYs (n + 1) ys = lcYs n ys ++ (ys n).toList := by
  unfold lcYs
  rw [List.range_succ, List.filterMap_append]
  cases h : ys n with
  | none => simp [h]
  | some y => simp [h]
theorem lcYs_len (n : Nat) (ys : Nat → Option V) : (lcYs n ys).length ≤ n := by
  unfold lcYs
  have := List.length_filterMap_le ys (List.range n)
  rw [List.length_range] at this
  exact this
theorem lcYs_const (n : Nat) (v : V) : lcYs n (fun _ => some v) = List.replicate n v := by
  induction n with
  | zero => rfl
  | succ n ih => rw [lcYs_succ, ih, List.replicate_succ']; rfl
/-- .. one for each item -/
theorem lcYs_map {α : Type} (f : α → V) : ∀ (xs : List α) (ys : Nat → Option V), (∀ i x, xs[i]? = some x → ys i = some (f x)) → lcYs xs.length ys = xs.map f := by
  intro xs ys h
  have key : ∀ n, n ≤ xs.length → lcYs n ys = (xs.take n).map f := by
    intro n
    induction n with
    | zero => intro _; rfl
    | succ n ih =>
      intro hn
      have hx : xs[n]? = some xs[n] := List.getElem?_eq_getElem (by omega)
      rw [lcYs_succ, ih (by omega), h n _ hx, List.take_add_one, hx, List.map_append]
      rfl
  rw [key _ (Nat.le_refl _), List.take_length]
/-- .. of those that a test keeps -/
theorem lcYs_filter {α : Type} (q : α → Bool) (f : α → V) : ∀ (xs : List α) (ys : Nat → Option V), (∀ i x, xs[i]? = some x → ys i = if q x = true then some (f x) else none) → lcYs xs.length ys = (xs.filter q).map f := by
  intro xs ys h
  have key : ∀ n, n ≤ xs.length → lcYs n ys = ((xs.take n).filter q).map f := by
    intro n
    induction n with
    | zero => intro _; rfl
    | succ n ih =>
      intro hn
      have hx : xs[n]? = some xs[n] := List.getElem?_eq_getElem (by omega)
      rw [lcYs_succ, ih (by omega), h n _ hx, List.take_add_one, hx, List.filter_append, List.map_append]
      congr 1
      cases hq : q xs[n] <;> simp [hq]
  rw [key _ (Nat.le_refl _), List.take_length]
/-- the ends of a turn that changes nothing -/
structure LcQ (H : Hp) (r : Option V) (Kt : V → Hp → Prop) (Kf : Hp → Prop) : Prop where
  yes : ∀ y H4, Same H H4 → r = some y → Kt y H4
  no : ∀ H3, Same H H3 → r = none → Kf H3
theorem lcQ_of {P : Nat → List V → Hp → Prop} {ys : Nat → Option V} {i : Nat} {acc : List V} {H H0 : Hp} {Kt : V → Hp → Prop} {Kf : Hp → Prop} (hP : P = fun i acc H => acc = lcYs i ys ∧ Same H1 H) (hD : H1 D = none) (hi : i < 100000)
    (p : P i acc H0) (e : H0 D = some (.lst acc)) (s : Same H0 H) (k : LcK D (P (i + 1)) acc Kt Kf) : LcQ H (ys i) Kt Kf := by
  subst hP
  obtain ⟨rfl, sm⟩ := p
  have hz : (lcYs i ys).length < sizeLine := Nat.lt_of_le_of_lt (lcYs_len i ys) (Nat.lt_of_lt_of_le hi (by decide))
  refine ⟨fun y H4 s4 ey => k.yes y H4 (s4 _ _ (s _ _ e)) hz fun H5 b5 _ => ⟨?_, ?_⟩, fun H3 s3 en => k.no H3 (s3 _ _ (s _ _ e)) ⟨?_, (sm.trans s).trans s3⟩⟩
  · rw [lcYs_succ, ey]; rfl
  · exact Same.mut' ((sm.trans s).trans s4) b5 hD
  · rw [lcYs_succ, en]; simp
theorem lcLq (ys : Nat → Option V) (hD : H1 D = none) (hx : SqL K H1 a xs) (hn : xs.length ≤ 100000)
    (hs : ∀ i x H Kt Kf, xs[i]? = some x → Same H1 H → LcQ H (ys i) Kt Kf → LcT g tt te vs σ x H Kt Kf)
    (hd : ∀ H, Same H1 H → H D = some (.lst (lcYs xs.length ys)) → Qd H) :
    ∃ W : Nat → Nat → Hp → Prop, (∃ m, W 0 m (upd H1 D (.lst []))) ∧ ∀ i m H, W i m H →
      ((Itl K a).stop i H ∧ Qd H) ∨ ((Itl K a).go i H ∧ ∃ Nx : Hp → Prop, (∀ H', Nx H' → ∃ m', m' < m ∧ W (i + 1) m' H') ∧ ∀ x H', (Itl K a).yld i H x H' → g x (wipe σ vs) H' fun σ2 H2 => wipe σ2 vs = wipe σ vs ∧ tt σ2 H2 fun b H3 =>
        if b = true then te σ2 H3 fun y H4 => ∃ acc, H4 D = some (.lst acc) ∧ acc.length < sizeLine ∧ Nx (upd H4 D (.lst (acc ++ [y]))) else Nx H3) :=
  lcL (fun i acc H => acc = lcYs i ys ∧ Same H1 H) (fun H' s _ => ⟨rfl, s⟩) hD (fun i acc H p => p.2.seq hx)
    (fun i x acc H Kt Kf hxi p e k => hs i x H Kt Kf hxi p.2 (lcQ_of rfl hD (by have := (List.getElem?_eq_some_iff.mp hxi).1; omega) p e (Same.refl H) k))
    (fun acc H p e => hd H p.2 (by rw [← p.1]; exact e))
theorem lcTq (ys : Nat → Option V) (hD : H1 D = none) (hx : SqT K H1 a xs) (hn : xs.length ≤ 100000)
    (hs : ∀ i x H Kt Kf, xs[i]? = some x → Same H1 H → LcQ H (ys i) Kt Kf → LcT g tt te vs σ x H Kt Kf)
    (hd : ∀ H, Same H1 H → H D = some (.lst (lcYs xs.length ys)) → Qd H) :
    ∃ W : Nat → Nat → Hp → Prop, (∃ m, W 0 m (upd H1 D (.lst []))) ∧ ∀ i m H, W i m H →
      ((Itt K a).stop i H ∧ Qd H) ∨ ((Itt K a).go i H ∧ ∃ Nx : Hp → Prop, (∀ H', Nx H' → ∃ m', m' < m ∧ W (i + 1) m' H') ∧ ∀ x H', (Itt K a).yld i H x H' → g x (wipe σ vs) H' fun σ2 H2 => wipe σ2 vs = wipe σ vs ∧ tt σ2 H2 fun b H3 =>
        if b = true then te σ2 H3 fun y H4 => ∃ acc, H4 D = some (.lst acc) ∧ acc.length < sizeLine ∧ Nx (upd H4 D (.lst (acc ++ [y]))) else Nx H3) :=
  lcT (fun i acc H => acc = lcYs i ys ∧ Same H1 H) (fun H' s _ => ⟨rfl, s⟩) hD (fun i acc H p => (show SqT K H a xs from by
      rcases hx with (h | ⟨o, h⟩) | h
      · exact .inl (.inl (p.2 _ _ h))
      · exact .inl (.inr ⟨o, p.2 _ _ h⟩)
      · exact .inr h))
    (fun i x acc H Kt Kf hxi p e k => hs i x H Kt Kf hxi p.2 (lcQ_of rfl hD (by have := (List.getElem?_eq_some_iff.mp hxi).1; omega) p e (Same.refl H) k))
    (fun acc H p e => hd H p.2 (by rw [← p.1]; exact e))
theorem lcRq {lo : Int} {n : Nat} (ys : Nat → Option V) (hD : H1 D = none) (hn : n ≤ 100000)
    (hs : ∀ i H Kt Kf, i < n → Same H1 H → LcQ H (ys i) Kt Kf → LcT g tt te vs σ (.int (lo + i)) H Kt Kf)
    (hd : ∀ H, Same H1 H → H D = some (.lst (lcYs n ys)) → Qd H) :
    ∃ W : Nat → Nat → Hp → Prop, (∃ m, W 0 m (upd H1 D (.lst []))) ∧ ∀ i m H, W i m H →
      ((Itr lo n).stop i H ∧ Qd H) ∨ ((Itr lo n).go i H ∧ ∃ Nx : Hp → Prop, (∀ H', Nx H' → ∃ m', m' < m ∧ W (i + 1) m' H') ∧ ∀ x H', (Itr lo n).yld i H x H' → g x (wipe σ vs) H' fun σ2 H2 => wipe σ2 vs = wipe σ vs ∧ tt σ2 H2 fun b H3 =>
        if b = true then te σ2 H3 fun y H4 => ∃ acc, H4 D = some (.lst acc) ∧ acc.length < sizeLine ∧ Nx (upd H4 D (.lst (acc ++ [y]))) else Nx H3) :=
  lcR (fun i acc H => acc = lcYs i ys ∧ Same H1 H) (fun H' s _ => ⟨rfl, s⟩) hD
    (fun i acc H Kt Kf hxi p e k => hs i H Kt Kf hxi p.2 (lcQ_of rfl hD (by omega) p e (Same.refl H) k))
    (fun acc H p e => hd H p.2 (by rw [← p.1]; exact e))
theorem lcEq (ys : Nat → Option V) (hD : H1 D = none) (hx : SqL K H1 a xs) (hn : xs.length ≤ 100000)
    (hs : ∀ i x T H Kt Kf, xs[i]? = some x → Same H1 H → H T = some (.tup [.int (i : Nat), x]) → LcQ H (ys i) Kt Kf → LcT g tt te vs σ (.ref T) H Kt Kf)
    (hd : ∀ H, Same H1 H → H D = some (.lst (lcYs xs.length ys)) → Qd H) :
    ∃ W : Nat → Nat → Hp → Prop, (∃ m, W 0 m (upd H1 D (.lst []))) ∧ ∀ i m H, W i m H →
      ((Ite K a).stop i H ∧ Qd H) ∨ ((Ite K a).go i H ∧ ∃ Nx : Hp → Prop, (∀ H', Nx H' → ∃ m', m' < m ∧ W (i + 1) m' H') ∧ ∀ x H', (Ite K a).yld i H x H' → g x (wipe σ vs) H' fun σ2 H2 => wipe σ2 vs = wipe σ vs ∧ tt σ2 H2 fun b H3 =>
        if b = true then te σ2 H3 fun y H4 => ∃ acc, H4 D = some (.lst acc) ∧ acc.length < sizeLine ∧ Nx (upd H4 D (.lst (acc ++ [y]))) else Nx H3) :=
  lcE (fun i acc H => acc = lcYs i ys ∧ Same H1 H) (fun H' s _ => ⟨rfl, s⟩) hD (fun i acc H p => p.2.seq hx)
    (fun i x acc H T H' Kt Kf hxi p e nT sT gT k => hs i x T H' Kt Kf hxi (p.2.trans sT) gT (lcQ_of rfl hD (by have := (List.getElem?_eq_some_iff.mp hxi).1; omega) p e sT k))
    (fun acc H p e => hd H p.2 (by rw [← p.1]; exact e))
theorem lcZq (ys : Nat → Option V) (hlen : xs.length = zs.length) (hD : H1 D = none) (hx : SqL K H1 a xs) (hz : SqL K H1 b zs) (hn : xs.length ≤ 100000)
    (hs : ∀ i x z T H Kt Kf, xs[i]? = some x → zs[i]? = some z → Same H1 H → H T = some (.tup [x, z]) → LcQ H (ys i) Kt Kf → LcT g tt te vs σ (.ref T) H Kt Kf)
    (hd : ∀ H, Same H1 H → H D = some (.lst (lcYs xs.length ys)) → Qd H) :
    ∃ W : Nat → Nat → Hp → Prop, (∃ m, W 0 m (upd H1 D (.lst []))) ∧ ∀ i m H, W i m H →
      ((Itz K a b).stop i H ∧ Qd H) ∨ ((Itz K a b).go i H ∧ ∃ Nx : Hp → Prop, (∀ H', Nx H' → ∃ m', m' < m ∧ W (i + 1) m' H') ∧ ∀ x H', (Itz K a b).yld i H x H' → g x (wipe σ vs) H' fun σ2 H2 => wipe σ2 vs = wipe σ vs ∧ tt σ2 H2 fun b H3 =>
        if b = true then te σ2 H3 fun y H4 => ∃ acc, H4 D = some (.lst acc) ∧ acc.length < sizeLine ∧ Nx (upd H4 D (.lst (acc ++ [y]))) else Nx H3) :=
  lcZ hlen (fun i acc H => acc = lcYs i ys ∧ Same H1 H) (fun H' s _ => ⟨rfl, s⟩) hD (fun i acc H p => ⟨p.2.seq hx, p.2.seq hz⟩)
    (fun i x z acc H T H' Kt Kf hxi hzi p e nT sT gT k => hs i x z T H' Kt Kf hxi hzi (p.2.trans sT) gT (lcQ_of rfl hD (by have := (List.getElem?_eq_some_iff.mp hxi).1; omega) p e sT k))
    (fun acc H p e => hd H p.2 (by rw [← p.1]; exact e))
end
/-- the items of a dict: it is held from there on (nobody else has it) -/
def iItemsN (td : TE) : TI := fun σ H R => td σ H fun x H1 => ∃ d kvs, x = .ref d ∧ H1 d = some (.dK kvs) ∧ ∀ o H2, But d H1 H2 → H2 d = some (.frz o (.dK kvs)) → R (Iti d o kvs) H2
theorem pi_itemsN {X : Cx} {e : Expr} {td : TE} {apos cpos : Pos} {elts : List Expr} {kk : Nat} {tpos : Pos} (he : PE X e td) (hbase : attributeBase e "items" X.env (eval e X.env) = eval e X.env := by rfl) (hline : (apos.endLine == cpos.line) = true := by rfl) :
    PI X (.Tuple elts kk tpos) (.Call (.Attribute e "items" apos) [] [] cpos) (iItemsN td) := by
  refine ⟨fun pins s σ H R I h => ?_⟩
  refine wpAny_Call_method (T := "dict") (id := "dict.items") hbase rfl hline F.plainAttrs_dict F.slot_dict_items F.type_dict_items (thn (he.run pins s σ H _ I h) fun u s1 ⟨x, H0, I0, rx, d, kvs, ex, hd0, q0⟩ => ?_)
  subst ex
  obtain rfl : u = Value.ref d := rx
  obtain ⟨o, I1⟩ := I0.lock hd0 trivial
  have hd : (upd H0 d (.frz o (.dK kvs))) d = some (.frz o (.dK kvs)) := upd_same
  have q := q0 o _ But.refl.upd hd
  generalize upd H0 d (.frz o (.dK kvs)) = H1 at I1 hd q
  obtain ⟨hs, hgd, hx, es, ep, vs, hdt, hsz, kv, hm⟩ := I1.frzK hd
  have hl : kvs.length = vs.length := Paired.length kv
  refine ⟨hm.dictOf.typeIs, hm.dictOf.mapOf.noDict, ?_⟩
  have I2 : Inv X pins σ H1 { s1 with heap := s1.heap.push { cls := .type "dict_items", data := .fields #[.ref d] } } := I1.kept (t' := s1.toks) fun b ob q => Heap.get?_push_of_some _ q
  have fin : wpAny (model X.prog X.w) X.A (pyIter (.ref s1.heap.objs.size)) (PIE X pins σ (.Tuple elts kk tpos) R) X.xe { s1 with heap := s1.heap.push { cls := .type "dict_items", data := .fields #[.ref d] } } := by
    refine wpAny_pyIter_items (d := d) (knd := mixKind X.prog X.w) ⟨_, Heap.get?_push_size _ rfl, rfl, rfl⟩ (hm.push _) (pi_one (tk := s1.toks) I2 _ (turn_items _ hdt) ⟨.none, .none, ?_⟩ q)
    rw [hl]
    exact Heap.get?_push_size _ rfl
  show wpAny _ _ (callWith cpos (.builtin "dict.items") [.ref d] [] []) _ X.xe s1
  exact method_meetsIn F.slot_dict_items F.entry_dict_items rfl (PySem.evalArgs_none ⟨rfl, hm.dictOf.typeIs, F.args_dict_items_1 _, _, meets_dict_items (mixKind X.prog X.w) d hs, ⟨vs, hm.dictOf⟩, fin⟩)
/-! ### loops over enumerate, zip, the items of a dict that nobody else holds -/
section
variable {K : PySem.W.Frag} {a b : Addr} {xs zs : List V} {g : TG} {tb : TS} {D : Ends} {σ : L2.St} {H : Hp}
theorem for_enum (Pv : Nat → L2.St → Hp → Prop) (h0 : Pv 0 σ H) (hl : ∀ i σ H, Pv i σ H → SqL K H a xs)
    (hs : ∀ i x T σ H H', xs[i]? = some x → Pv i σ H → H T = none → Same H H' → H' T = some (.tup [.int (i : Nat), x]) → g (.ref T) σ H' fun σ2 H2 => tb { D with nx := Pv (i + 1), ct := Pv (i + 1), bk := D.nx } σ2 H2) (hd : ∀ σ H, Pv xs.length σ H → D.nx σ H) :
    ∃ W : Nat → Nat → L2.St → Hp → Prop, (∃ m, W 0 m σ H) ∧ ∀ i m σ H, W i m σ H →
      ((Ite K a).stop i H ∧ D.nx σ H) ∨ ((Ite K a).go i H ∧ ∃ N : L2.St → Hp → Prop, (∀ σ' H', N σ' H' → ∃ m', m' < m ∧ W (i + 1) m' σ' H') ∧ ∀ v H', (Ite K a).yld i H v H' → g v σ H' fun σ2 H2 => tb { D with nx := N, ct := N, bk := D.nx } σ2 H2) := by
  refine ⟨fun i m σ H => m = xs.length - i ∧ i ≤ xs.length ∧ Pv i σ H, ⟨xs.length, rfl, Nat.zero_le _, h0⟩, ?_⟩
  rintro i m σ H ⟨rfl, hi, p⟩
  have q := hl i σ H p
  by_cases hlt : i < xs.length
  · refine .inr ⟨⟨xs, xs[i], q, by simp [hlt]⟩, Pv (i + 1), fun σ' H' p' => ⟨xs.length - (i + 1), by omega, rfl, hlt, p'⟩, fun v H' y => ?_⟩
    obtain ⟨T, x, rfl, nT, rfl, hx⟩ := y
    exact hs i x T σ H _ (hx xs q) p nT (Same.upd0 nT) upd_same
  · have ei : i = xs.length := by omega
    subst ei
    exact .inl ⟨⟨xs, q, Nat.le_refl _⟩, hd σ H p⟩
theorem for_zip (hlen : xs.length = zs.length) (Pv : Nat → L2.St → Hp → Prop) (h0 : Pv 0 σ H) (hl : ∀ i σ H, Pv i σ H → SqL K H a xs ∧ SqL K H b zs)
    (hs : ∀ i x z T σ H H', xs[i]? = some x → zs[i]? = some z → Pv i σ H → H T = none → Same H H' → H' T = some (.tup [x, z]) → g (.ref T) σ H' fun σ2 H2 => tb { D with nx := Pv (i + 1), ct := Pv (i + 1), bk := D.nx } σ2 H2) (hd : ∀ σ H, Pv xs.length σ H → D.nx σ H) :
    ∃ W : Nat → Nat → L2.St → Hp → Prop, (∃ m, W 0 m σ H) ∧ ∀ i m σ H, W i m σ H →
      ((Itz K a b).stop i H ∧ D.nx σ H) ∨ ((Itz K a b).go i H ∧ ∃ N : L2.St → Hp → Prop, (∀ σ' H', N σ' H' → ∃ m', m' < m ∧ W (i + 1) m' σ' H') ∧ ∀ v H', (Itz K a b).yld i H v H' → g v σ H' fun σ2 H2 => tb { D with nx := N, ct := N, bk := D.nx } σ2 H2) := by
  refine ⟨fun i m σ H => m = xs.length - i ∧ i ≤ xs.length ∧ Pv i σ H, ⟨xs.length, rfl, Nat.zero_le _, h0⟩, ?_⟩
  rintro i m σ H ⟨rfl, hi, p⟩
  obtain ⟨q1, q2⟩ := hl i σ H p
  by_cases hlt : i < xs.length
  · have hlt2 : i < zs.length := by omega
    refine .inr ⟨⟨xs, zs, xs[i], zs[i], q1, q2, by simp [hlt], by simp [hlt2]⟩, Pv (i + 1), fun σ' H' p' => ⟨xs.length - (i + 1), by omega, rfl, hlt, p'⟩, fun v H' y => ?_⟩
    obtain ⟨T, x, z, rfl, nT, rfl, hx, hz⟩ := y
    exact hs i x z T σ H _ (hx xs q1) (hz zs q2) p nT (Same.upd0 nT) upd_same
  · have ei : i = xs.length := by omega
    subst ei
    exact .inl ⟨⟨xs, zs, q1, q2, .inl (Nat.le_refl _)⟩, hd σ H p⟩
theorem for_items {d : Addr} {o : Obj} {kvs : List (Key × V)} (Pv : Nat → L2.St → Hp → Prop) (h0 : Pv 0 σ H) (hl : ∀ i σ H, Pv i σ H → H d = some (.frz o (.dK kvs)))
    (hs : ∀ i k v T σ H H', kvs[i]? = some (k, v) → Pv i σ H → H T = none → Same H H' → H' T = some (.tup [kV k, v]) → g (.ref T) σ H' fun σ2 H2 => tb { D with nx := Pv (i + 1), ct := Pv (i + 1), bk := D.nx } σ2 H2) (hd : ∀ σ H, Pv kvs.length σ H → D.nx σ H) :
    ∃ W : Nat → Nat → L2.St → Hp → Prop, (∃ m, W 0 m σ H) ∧ ∀ i m σ H, W i m σ H →
      ((Iti d o kvs).stop i H ∧ D.nx σ H) ∨ ((Iti d o kvs).go i H ∧ ∃ N : L2.St → Hp → Prop, (∀ σ' H', N σ' H' → ∃ m', m' < m ∧ W (i + 1) m' σ' H') ∧ ∀ v H', (Iti d o kvs).yld i H v H' → g v σ H' fun σ2 H2 => tb { D with nx := N, ct := N, bk := D.nx } σ2 H2) := by
  refine ⟨fun i m σ H => m = kvs.length - i ∧ i ≤ kvs.length ∧ Pv i σ H, ⟨kvs.length, rfl, Nat.zero_le _, h0⟩, ?_⟩
  rintro i m σ H ⟨rfl, hi, p⟩
  have q := hl i σ H p
  by_cases hlt : i < kvs.length
  · refine .inr ⟨⟨q, hlt⟩, Pv (i + 1), fun σ' H' p' => ⟨kvs.length - (i + 1), by omega, rfl, hlt, p'⟩, fun v H' y => ?_⟩
    obtain ⟨T, k, v, hx, rfl, nT, rfl⟩ := y
    exact hs i k v T σ H _ hx p nT (Same.upd0 nT) upd_same
  · have ei : i = kvs.length := by omega
    subst ei
    exact .inl ⟨⟨q, Nat.le_refl _⟩, hd σ H p⟩
end
/-! ### data, == -/
section
variable {K : PySem.W.Frag} {H H' : Hp}
theorem Same.seqT {a : Addr} {xs : List V} (e : Same H H') (h : SqT K H a xs) : SqT K H' a xs := by
  rcases h with (h | ⟨o, h⟩) | h
  · exact .inl (.inl (e _ _ h))
  · exact .inl (.inr ⟨o, e _ _ h⟩)
  · exact .inr h
mutual
theorem dp_mono (s : Same H H') : ∀ {v : V} {d : PyData}, Dp K H v d → Dp K H' v d
  | _, _, .non => .non
  | _, _, .bl b => .bl b
  | _, _, .int i => .int i
  | _, _, .str x => .str x
  | _, _, .lst h a => .lst (s.seq h) (dpAll_mono s a)
  | _, _, .tup h a => .tup (Same.seqT s h) (dpAll_mono s a)
theorem dpAll_mono (s : Same H H') : ∀ {vs : List V} {ds : List PyData}, DpAll K H vs ds → DpAll K H' vs ds
  | _, _, .nil => .nil
  | _, _, .cons h t => .cons (dp_mono s h) (dpAll_mono s t)
end
theorem dpAll_map {α : Type} {f : α → V} {g : α → PyData} (h : ∀ x, Dp K H (f x) (g x)) : ∀ xs : List α, DpAll K H (xs.map f) (xs.map g)
  | [] => .nil
  | x :: xs => .cons (h x) (dpAll_map h xs)
theorem dp_ints {a : Addr} {ns : List Int} (h : SqL K H a (ns.map V.int)) : Dp K H (.ref a) (.list (ns.map .int)) := .lst h (dpAll_map (fun i => .int i) ns)
def optD : Option Int → PyData
  | some i => .int i
  | none => .none
theorem dp_opt : ∀ x, Dp K H (optI x) (optD x)
  | some i => .int i
  | none => .non
theorem dp_opts {a : Addr} {ns : List (Option Int)} (h : SqL K H a (ns.map optI)) : Dp K H (.ref a) (.list (ns.map optD)) := .lst h (dpAll_map dp_opt ns)
end
mutual
/-- data without truths and dicts -/
def nob : PyData → Bool
  | .none | .int _ | .str _ => true
  | .bool _ | .dict _ => false
  | .list xs | .tuple xs => nobAll xs
def nobAll : List PyData → Bool
  | [] => true
  | x :: xs => nob x && nobAll xs
end
mutual
theorem eqv_iff : ∀ {d e : PyData}, nob d = true → nob e = true → (PyData.eqv d e = true ↔ d = e)
  | .none, .none, _, _ => by simp [PyData.eqv]
  | .none, .int _, _, _ => by simp [PyData.eqv]
  | .none, .str _, _, _ => by simp [PyData.eqv]
  | .none, .list _, _, _ => by simp [PyData.eqv]
  | .none, .tuple _, _, _ => by simp [PyData.eqv]
  | .int _, .none, _, _ => by simp [PyData.eqv]
  | .int _, .int _, _, _ => by simp [PyData.eqv]
  | .int _, .str _, _, _ => by simp [PyData.eqv]
  | .int _, .list _, _, _ => by simp [PyData.eqv]
  | .int _, .tuple _, _, _ => by simp [PyData.eqv]
  | .str _, .none, _, _ => by simp [PyData.eqv]
  | .str _, .int _, _, _ => by simp [PyData.eqv]
  | .str _, .str _, _, _ => by simp [PyData.eqv]
  | .str _, .list _, _, _ => by simp [PyData.eqv]
  | .str _, .tuple _, _, _ => by simp [PyData.eqv]
  | .list _, .none, _, _ => by simp [PyData.eqv]
  | .list _, .int _, _, _ => by simp [PyData.eqv]
  | .list _, .str _, _, _ => by simp [PyData.eqv]
  | .list xs, .list ys, h1, h2 => by
    have h := eqvAll_iff (xs := xs) (ys := ys) (by simpa [nob] using h1) (by simpa [nob] using h2)
    simp only [PyData.eqv, PyData.list.injEq]; exact h
  | .list _, .tuple _, _, _ => by simp [PyData.eqv]
  | .tuple _, .none, _, _ => by simp [PyData.eqv]
  | .tuple _, .int _, _, _ => by simp [PyData.eqv]
  | .tuple _, .str _, _, _ => by simp [PyData.eqv]
  | .tuple _, .list _, _, _ => by simp [PyData.eqv]
  | .tuple xs, .tuple ys, h1, h2 => by
    have h := eqvAll_iff (xs := xs) (ys := ys) (by simpa [nob] using h1) (by simpa [nob] using h2)
    simp only [PyData.eqv, PyData.tuple.injEq]; exact h
  | .bool _, _, h, _ => by simp [nob] at h
  | .dict _, _, h, _ => by simp [nob] at h
  | .none, .bool _, _, h => by simp [nob] at h
  | .none, .dict _, _, h => by simp [nob] at h
  | .int _, .bool _, _, h => by simp [nob] at h
  | .int _, .dict _, _, h => by simp [nob] at h
  | .str _, .bool _, _, h => by simp [nob] at h
  | .str _, .dict _, _, h => by simp [nob] at h
  | .list _, .bool _, _, h => by simp [nob] at h
  | .list _, .dict _, _, h => by simp [nob] at h
  | .tuple _, .bool _, _, h => by simp [nob] at h
  | .tuple _, .dict _, _, h => by simp [nob] at h
theorem eqvAll_iff : ∀ {xs ys : List PyData}, nobAll xs = true → nobAll ys = true → (PyData.eqvAll xs ys = true ↔ xs = ys)
  | [], [], _, _ => by simp [PyData.eqvAll]
  | [], _ :: _, _, _ => by simp [PyData.eqvAll]
  | _ :: _, [], _, _ => by simp [PyData.eqvAll]
  | x :: xs, y :: ys, h1, h2 => by
    simp only [nobAll, Bool.and_eq_true] at h1 h2
    have a := eqv_iff h1.1 h2.1
    have b := eqvAll_iff h1.2 h2.2
    simp only [PyData.eqvAll, Bool.and_eq_true, List.cons.injEq]
    rw [a, b]
end
theorem eqv_dec {d e : PyData} (h1 : nob d = true) (h2 : nob e = true) {b : Bool} (h : b = true ↔ d = e) : PyData.eqv d e = b := by
  have a := eqv_iff h1 h2
  cases hb : b with
  | true => rw [hb] at h; exact a.mpr (h.mp rfl)
  | false =>
    cases he : PyData.eqv d e with
    | false => rfl
    | true => have := h.mpr (a.mp he); rw [hb] at this; cases this
theorem nobAll_map {α : Type} {g : α → PyData} (h : ∀ x, nob (g x) = true) : ∀ xs : List α, nobAll (xs.map g) = true
  | [] => by simp [nobAll]
  | x :: xs => by simp only [List.map_cons, nobAll, h x, nobAll_map h xs, Bool.and_self]
theorem canLayAll0_map {α : Type} {g : α → PyData} (h : ∀ x, (g x).canLay0 = true) : ∀ xs : List α, PyData.canLayAll0 (xs.map g) = true
  | [] => by simp [PyData.canLayAll0]
  | x :: xs => by simp only [List.map_cons, PyData.canLayAll0, h x, canLayAll0_map h xs, Bool.and_self]
theorem depthAll_map {α : Type} {g : α → PyData} {m : Nat} (h : ∀ x, (g x).depth ≤ m) : ∀ xs : List α, PyData.depthAll (xs.map g) ≤ m
  | [] => by simp [PyData.depthAll]
  | x :: xs => by
    have h1 := h x
    have h2 := depthAll_map h xs
    simp only [List.map_cons, PyData.depthAll]; omega
theorem shaped_map {α : Type} {g : α → PyData} {m : Nat} (hm : m < 64) (h1 : ∀ x, (g x).canLay0 = true) (h2 : ∀ x, (g x).depth ≤ m) (xs : List α) : SeqAt.shaped (.list (xs.map g)) = true := by
  unfold SeqAt.shaped
  rw [Bool.and_eq_true]
  refine ⟨by simp only [PyData.canLay0]; exact canLayAll0_map h1 xs, decide_eq_true ?_⟩
  have := depthAll_map h2 xs
  simp only [PyData.depth]; omega
theorem shaped_ints (ns : List Int) : SeqAt.shaped (.list (ns.map .int)) = true := shaped_map (m := 0) (by decide) (fun _ => by simp [PyData.canLay0]) (fun _ => by simp [PyData.depth]) ns
theorem shaped_opts (ns : List (Option Int)) : SeqAt.shaped (.list (ns.map optD)) = true := shaped_map (m := 0) (by decide) (fun x => by cases x <;> simp [optD, PyData.canLay0]) (fun x => by cases x <;> simp [optD, PyData.depth]) ns
theorem nob_ints (ns : List Int) : nob (.list (ns.map .int)) = true := by simp only [nob]; exact nobAll_map (fun _ => by simp [nob]) ns
theorem nob_opts (ns : List (Option Int)) : nob (.list (ns.map optD)) = true := by simp only [nob]; exact nobAll_map (fun x => by cases x <;> simp [optD, nob]) ns
theorem map_inj {α β : Type} {f : α → β} (h : ∀ a b, f a = f b → a = b) : ∀ {xs ys : List α}, xs.map f = ys.map f → xs = ys
  | [], [], _ => rfl
  | [], _ :: _, e => by simp at e
  | _ :: _, [], e => by simp at e
  | x :: xs, y :: ys, e => by
    simp only [List.map_cons, List.cons.injEq] at e
    rw [h x y e.1, map_inj h e.2]
theorem eqv_ints (ns ms : List Int) : PyData.eqv (.list (ns.map .int)) (.list (ms.map .int)) = decide (ns = ms) :=
  eqv_dec (nob_ints ns) (nob_ints ms) (by
    rw [decide_eq_true_iff]
    exact ⟨fun e => by rw [e], fun e => map_inj (fun a b h => PyData.int.inj h) (PyData.list.inj e)⟩)
theorem eqv_opts (ns ms : List (Option Int)) : PyData.eqv (.list (ns.map optD)) (.list (ms.map optD)) = decide (ns = ms) :=
  eqv_dec (nob_opts ns) (nob_opts ms) (by
    rw [decide_eq_true_iff]
    exact ⟨fun e => by rw [e], fun e => map_inj (fun a b h => by cases a <;> cases b <;> simp_all [optD]) (PyData.list.inj e)⟩)
section
variable {X : Cx}
/-- two lists of ints -/
def rEqIs (K : PySem.W.Frag) : R2 := fun x y H Q => ∃ (a b : Addr) (ns ms : List Int), x = .ref a ∧ y = .ref b ∧ SqL K H a (ns.map V.int) ∧ SqL K H b (ms.map V.int) ∧ Q (.bl (decide (ns = ms))) H
def rNeIs (K : PySem.W.Frag) : R2 := fun x y H Q => ∃ (a b : Addr) (ns ms : List Int), x = .ref a ∧ y = .ref b ∧ SqL K H a (ns.map V.int) ∧ SqL K H b (ms.map V.int) ∧ Q (.bl (!decide (ns = ms))) H
theorem op_eqIs (hu : X.A.units + 64 < cLine) : OpR X (compareOp .Eq) (rEqIs X.K) := opR_imp (op_eqD hu) fun _ _ _ _ ⟨a, b, ns, ms, e1, e2, h1, h2, q⟩ => by
  subst e1 e2
  exact ⟨_, _, dp_ints h1, dp_ints h2, shaped_ints ns, shaped_ints ms, by rw [eqv_ints]; exact q⟩
theorem op_neIs (hu : X.A.units + 64 < cLine) : OpR X (compareOp .NotEq) (rNeIs X.K) := opR_imp (op_neD hu) fun _ _ _ _ ⟨a, b, ns, ms, e1, e2, h1, h2, q⟩ => by
  subst e1 e2
  exact ⟨_, _, dp_ints h1, dp_ints h2, shaped_ints ns, shaped_ints ms, by rw [eqv_ints]; exact q⟩
end
/-! ### rules that hang on the written part, the part by its name (a comprehension's block has the same one) -/
section
variable {X : Cx} {K : PySem.W.Frag}
theorem op_notInK (h : X.K = K) : OpR X (compareOp .NotIn) (rIn K true) := h ▸ op_notIn_seq
theorem op_inK (h : X.K = K) : OpR X (compareOp .In) (rIn K false) := h ▸ op_in_seq
theorem ix_listK (h : X.K = K) : IxR X (rIxL K) := h ▸ ix_list
theorem ix_tupK (h : X.K = K) : IxR X (rIxT K) := h ▸ ix_tup
theorem ix_seqK (h : X.K = K) : IxR X (rIx K) := h ▸ ix_seq
theorem op_catK (h : X.K = K) : OpR X (binaryOp .Add) (rCatA K) := h ▸ op_catA
theorem sl_listK (h : X.K = K) : SlR X (rSlA K) := h ▸ sl_listA
theorem op_eqDK (hu : X.A.units + 64 < cLine) (h : X.K = K) : OpR X (compareOp .Eq) (rEqD K) := h ▸ op_eqD hu
theorem op_neDK (hu : X.A.units + 64 < cLine) (h : X.K = K) : OpR X (compareOp .NotEq) (rNeD K) := h ▸ op_neD hu
theorem units65 {k : Nat} {A : Around} (r : Room k A) : A.units + 65 < cLine := by have := r.un; omega
theorem op_inDK (hu : X.A.units + 65 < cLine) (h : X.K = K) : OpR X (compareOp .In) (rInD K) := h ▸ op_inD hu
theorem op_notInDK (hu : X.A.units + 65 < cLine) (h : X.K = K) : OpR X (compareOp .NotIn) (rNotInD K) := h ▸ op_notInD hu
theorem op_eqIsK (hu : X.A.units + 64 < cLine) (h : X.K = K) : OpR X (compareOp .Eq) (rEqIs K) := h ▸ op_eqIs hu
theorem op_neIsK (hu : X.A.units + 64 < cLine) (h : X.K = K) : OpR X (compareOp .NotEq) (rNeIs K) := h ▸ op_neIs hu
theorem call_isiK (h : X.K = K) : CallR X (.builtin "isinstance") (rIsi K) := h ▸ call_isi
theorem call_isiTK (h : X.K = K) : CallR X (.builtin "isinstance") (rIsiT K) := h ▸ call_isiT
def rLen (K : PySem.W.Frag) : List V → Hp → VK → Prop := fun xs H Q => ∃ x n, xs = [x] ∧ LenV K x H n ∧ Q (.int n) H
theorem call_lenK (h : X.K = K) : CallR X (.builtin "len") (rLen K) := h ▸ call_len
theorem cr_sumK (hc : X.calm = true) (h : X.K = K) : CallR X (.builtin "sum") (rSum K) := h ▸ cr_sum hc
theorem cr_maxK (hc : X.calm = true) (h : X.K = K) : CallR X (.builtin "max") (rMax K) := h ▸ cr_max hc
theorem cr_minK (hc : X.calm = true) (h : X.K = K) : CallR X (.builtin "min") (rMin K) := h ▸ cr_min hc
theorem cr_anyK (hc : X.calm = true) (h : X.K = K) : CallR X (.builtin "any") (rAny K) := h ▸ cr_any hc
theorem cr_allK (hc : X.calm = true) (h : X.K = K) : CallR X (.builtin "all") (rAll K) := h ▸ cr_all hc
theorem call_listK (h : X.K = K) : CallR X (.type "list") (rListA K) := h ▸ call_listA
theorem call_tupLK (h : X.K = K) : CallR X (.type "tuple") (rTupLA K) := h ▸ call_tupLA
theorem pe_fldK {e : Expr} {f : Str} {pos : Pos} {ta : TE} (h : X.K = K) (he : PE X e ta) (hb : attributeBase e f X.env (eval e X.env) = eval e X.env) : PE X (.Attribute e f pos) (tFld K ta f) := h ▸ pe_fld he hb
theorem pi_listK {tg l : Expr} {tl : TE} (h : X.K = K) (hl : PE X l tl) : PI X tg l (iList K tl) := h ▸ pi_list hl
theorem pi_tupK {tg l : Expr} {tl : TE} (h : X.K = K) (hl : PE X l tl) : PI X tg l (iTup K tl) := h ▸ pi_tup hl
theorem pi_enumK {e : Expr} {ta : TA} {p pos tpos : Pos} {elts : List Expr} {kk : Nat} (h : X.K = K) (hg : Gl X "enumerate") (hm : X.mg "enumerate" = none) (ha : PA X [e] ta) (hs : starEach [e] X.env = [(false, eval e X.env)] := by rfl) :
    PI X (.Tuple elts kk tpos) (.Call (.Name "enumerate" p) [e] [] pos) (iEnum K ta) := h ▸ pi_enum hg hm ha hs
theorem pi_zipK {e e2 : Expr} {ta : TA} {p pos tpos : Pos} {elts : List Expr} {kk : Nat} (h : X.K = K) (hg : Gl X "zip") (hm : X.mg "zip" = none) (ha : PA X [e, e2] ta)
    (hs : starEach [e, e2] X.env = (false, eval e X.env) :: starEach [e2] X.env := by rfl) (hpl : (backTo pos (starEach [e2] X.env)).any (·.1) = false := by rfl) :
    PI X (.Tuple elts kk tpos) (.Call (.Name "zip" p) [e, e2] [] pos) (iZip K ta) := h ▸ pi_zip hg hm ha hs hpl
end
/-- a statement with what comes behind it by a name: M holds at its end -/
theorem seq_key {t u : TS} {D : Ends} {σ : L2.St} {H : Hp} (M : L2.St → Hp → Prop) (h2 : ∀ σ H, M σ H → u D σ H) (h1 : ∀ N : L2.St → Hp → Prop, (∀ σ H, M σ H → N σ H) → t { D with nx := N } σ H) : tSeq t u D σ H := h1 _ h2
theorem isIf {a : TT} {b c d : TS} {D : Ends} {σ : L2.St} {H : Hp} (h : tSeq (tIfS a b c) d D σ H) : tSeq (tIfS a b c) d D σ H := h
theorem iteF' {c : Bool} {A B : Prop} (hc : c = false) (h : B) : if c = true then A else B := by
  subst hc; exact iteF h
theorem iteT' {c : Bool} {A B : Prop} (hc : c = true) (h : A) : if c = true then A else B := by
  subst hc; exact iteT h
theorem Dr.seqT {K : PySem.W.Frag} {H H' : Hp} {a b : Addr} {xs : List V} (e : Dr a H H') (n : b ≠ a) (h : SqT K H b xs) : SqT K H' b xs := by
  rcases h with (h | ⟨o, h⟩) | h
  · exact .inl (.inl (e.b _ _ n h))
  · exact .inl (.inr ⟨o, e.b _ _ n h⟩)
  · exact .inr h
theorem int_inj_dec {i j : Int} : decide (V.int i = V.int j) = decide (i = j) := decide_eq_decide.mpr ⟨V.int.inj, fun e => e ▸ rfl⟩
/-- an item of a short written list -/
theorem pick2 {P : V → Prop} {a b : V} {n : Int} (h0 : 0 ≤ n) (h1 : n < 2) (ha : P a) (hb : P b) : ∃ x, atI [a, b] n = some x ∧ P x := by
  have : n = 0 ∨ n = 1 := by omega
  rcases this with rfl | rfl
  · exact ⟨a, rfl, ha⟩
  · exact ⟨b, rfl, hb⟩
theorem pick3 {P : V → Prop} {a b c : V} {n : Int} (h0 : 0 ≤ n) (h1 : n < 3) (ha : P a) (hb : P b) (hc : P c) : ∃ x, atI [a, b, c] n = some x ∧ P x := by
  have : n = 0 ∨ n = 1 ∨ n = 2 := by omega
  rcases this with rfl | rfl | rfl
  · exact ⟨a, rfl, ha⟩
  · exact ⟨b, rfl, hb⟩
  · exact ⟨c, rfl, hc⟩
theorem pick4 {P : V → Prop} {a b c d : V} {n : Int} (h0 : 0 ≤ n) (h1 : n < 4) (ha : P a) (hb : P b) (hc : P c) (hd : P d) : ∃ x, atI [a, b, c, d] n = some x ∧ P x := by
  have : n = 0 ∨ n = 1 ∨ n = 2 ∨ n = 3 := by omega
  rcases this with rfl | rfl | rfl | rfl
  · exact ⟨a, rfl, ha⟩
  · exact ⟨b, rfl, hb⟩
  · exact ⟨c, rfl, hc⟩
  · exact ⟨d, rfl, hd⟩
theorem pick5 {P : V → Prop} {a b c d e : V} {n : Int} (h0 : 0 ≤ n) (h1 : n < 5) (ha : P a) (hb : P b) (hc : P c) (hd : P d) (he : P e) : ∃ x, atI [a, b, c, d, e] n = some x ∧ P x := by
  have : n = 0 ∨ n = 1 ∨ n = 2 ∨ n = 3 ∨ n = 4 := by omega
  rcases this with rfl | rfl | rfl | rfl | rfl
  · exact ⟨a, rfl, ha⟩
  · exact ⟨b, rfl, hb⟩
  · exact ⟨c, rfl, hc⟩
  · exact ⟨d, rfl, hd⟩
  · exact ⟨e, rfl, he⟩
theorem pick6 {P : V → Prop} {a b c d e f : V} {n : Int} (h0 : 0 ≤ n) (h1 : n < 6) (ha : P a) (hb : P b) (hc : P c) (hd : P d) (he : P e) (hf : P f) : ∃ x, atI [a, b, c, d, e, f] n = some x ∧ P x := by
  have : n = 0 ∨ n = 1 ∨ n = 2 ∨ n = 3 ∨ n = 4 ∨ n = 5 := by omega
  rcases this with rfl | rfl | rfl | rfl | rfl | rfl
  · exact ⟨a, rfl, ha⟩
  · exact ⟨b, rfl, hb⟩
  · exact ⟨c, rfl, hc⟩
  · exact ⟨d, rfl, hd⟩
  · exact ⟨e, rfl, he⟩
  · exact ⟨f, rfl, hf⟩
/-- an int within bounds -/
def InR (lo hi : Int) (x : V) : Prop := ∃ z, x = .int z ∧ lo ≤ z ∧ z < hi
/-! ### isinstance of plain things -/
section
variable {X : Cx}
def rIs (T : String) (ans : V → String → Bool) : List V → Hp → VK → Prop := fun xs H Q => ∃ x t, xs = [x, .ty T] ∧ Ty7 H x t ∧ Q (.bl (ans x t)) H
theorem call_isTy (T : String) (ans : V → String → Bool) (h : ∀ H x t, Ty7 H x t → kitB t T = some (ans x t)) : CallR X (.builtin "isinstance") (rIs T ans) :=
  callR_imp call_isi fun _ H Q ⟨x, t, e, ht, q⟩ => ⟨x, _, _, _, _, e, .ty _, ht.tx, kit_ty (h H x t ht), q⟩
theorem is_list : CallR X (.builtin "isinstance") (rIs "list" fun _ t => decide (t = "list")) := call_isTy _ _ fun _ _ _ h => h.kl
theorem is_tuple : CallR X (.builtin "isinstance") (rIs "tuple" fun _ t => decide (t = "tuple")) := call_isTy _ _ fun _ _ _ h => h.kt
theorem is_str : CallR X (.builtin "isinstance") (rIs "str" fun _ t => decide (t = "str")) := call_isTy _ _ fun _ _ _ h => h.ks
theorem is_int : CallR X (.builtin "isinstance") (rIs "int" fun x _ => isI x || isB x) := call_isTy _ _ fun _ _ _ h => h.ki
theorem is_bool : CallR X (.builtin "isinstance") (rIs "bool" fun x _ => isB x) := call_isTy _ _ fun _ _ _ h => h.kb
end
/-! ### comprehensions, shorter: one item for each, those that a test keeps, items that draw -/
section
variable {K : PySem.W.Frag} {a b s : Addr} {g : TG} {tt : TT} {te : TE} {vs : List Nat} {σ : L2.St} {H1 : Hp} {D : Addr} {Qd : Hp → Prop} {α β : Type}
abbrev LcG (I : It) (g : TG) (tt : TT) (te : TE) (vs : List Nat) (σ : L2.St) (H1 : Hp) (D : Addr) (Qd : Hp → Prop) : Prop :=
    ∃ W : Nat → Nat → Hp → Prop, (∃ m, W 0 m (upd H1 D (.lst []))) ∧ ∀ i m H, W i m H →
      (I.stop i H ∧ Qd H) ∨ (I.go i H ∧ ∃ Nx : Hp → Prop, (∀ H', Nx H' → ∃ m', m' < m ∧ W (i + 1) m' H') ∧ ∀ x H', I.yld i H x H' → g x (wipe σ vs) H' fun σ2 H2 => wipe σ2 vs = wipe σ vs ∧ tt σ2 H2 fun b H3 =>
        if b = true then te σ2 H3 fun y H4 => ∃ acc, H4 D = some (.lst acc) ∧ acc.length < sizeLine ∧ Nx (upd H4 D (.lst (acc ++ [y]))) else Nx H3)
def ysF (f : α → V) (q : α → Bool) (xs : List α) (i : Nat) : Option V := xs[i]?.bind fun x => if q x = true then some (f x) else none
theorem ysF_all (f : α → V) (q : α → Bool) (xs : List α) : lcYs xs.length (ysF f q xs) = (xs.filter q).map f := lcYs_filter q f xs _ fun i x h => by unfold ysF; rw [h]; rfl
theorem ysF_one (f : α → V) (xs : List α) : lcYs xs.length (ysF f (fun _ => true) xs) = xs.map f := by
  rw [ysF_all, List.filter_eq_self.mpr fun _ _ => rfl]
theorem of_map {ρ : α → V} {ys : List α} {i : Nat} {x : V} (h : (ys.map ρ)[i]? = some x) : ∃ y, ys[i]? = some y ∧ x = ρ y := by
  rw [List.getElem?_map] at h
  cases e : ys[i]? with
  | none => rw [e] at h; cases h
  | some z => rw [e] at h; exact ⟨z, rfl, (Option.some.inj h).symm⟩
theorem lcLf (ρ f : α → V) (q : α → Bool) {ys : List α} (hD : H1 D = none) (hx : SqL K H1 a (ys.map ρ)) (hn : ys.length ≤ 100000)
    (hs : ∀ (i : Nat) (y : α) (H : Hp) (Kt : V → Hp → Prop) (Kf : Hp → Prop), ys[i]? = some y → Same H1 H → (q y = true → ∀ H4, Same H H4 → Kt (f y) H4) → (q y = false → ∀ H4, Same H H4 → Kf H4) → LcT g tt te vs σ (ρ y) H Kt Kf)
    (hd : ∀ H, Same H1 H → H D = some (.lst ((ys.filter q).map f)) → Qd H) : LcG (Itl K a) g tt te vs σ H1 D Qd :=
  lcLq (ysF f q ys) hD hx (by rw [List.length_map]; exact hn) (fun i x H Kt Kf hxi s qq => by
    obtain ⟨y, hy, rfl⟩ := of_map hxi
    exact hs i y H Kt Kf hy s (fun e H4 s4 => qq.yes _ _ s4 (by unfold ysF; rw [hy]; exact if_pos e)) (fun e H4 s4 => qq.no _ s4 (by unfold ysF; rw [hy]; exact if_neg (by rw [e]; simp))))
    (fun H s h => hd H s (by rw [h, List.length_map, ysF_all]))
theorem lcLm (ρ f : α → V) {ys : List α} (hD : H1 D = none) (hx : SqL K H1 a (ys.map ρ)) (hn : ys.length ≤ 100000)
    (hs : ∀ (i : Nat) (y : α) (H : Hp) (Kt : V → Hp → Prop) (Kf : Hp → Prop), ys[i]? = some y → Same H1 H → (∀ H4, Same H H4 → Kt (f y) H4) → LcT g tt te vs σ (ρ y) H Kt Kf)
    (hd : ∀ H, Same H1 H → H D = some (.lst (ys.map f)) → Qd H) : LcG (Itl K a) g tt te vs σ H1 D Qd :=
  lcLf ρ f (fun _ => true) hD hx hn (fun i y H Kt Kf hy s h _ => hs i y H Kt Kf hy s (h rfl)) (fun H s h => hd H s (by rw [h, List.filter_eq_self.mpr fun _ _ => rfl]))
theorem lcTf (ρ f : α → V) (q : α → Bool) {ys : List α} (hD : H1 D = none) (hx : SqT K H1 a (ys.map ρ)) (hn : ys.length ≤ 100000)
    (hs : ∀ (i : Nat) (y : α) (H : Hp) (Kt : V → Hp → Prop) (Kf : Hp → Prop), ys[i]? = some y → Same H1 H → (q y = true → ∀ H4, Same H H4 → Kt (f y) H4) → (q y = false → ∀ H4, Same H H4 → Kf H4) → LcT g tt te vs σ (ρ y) H Kt Kf)
    (hd : ∀ H, Same H1 H → H D = some (.lst ((ys.filter q).map f)) → Qd H) : LcG (Itt K a) g tt te vs σ H1 D Qd :=
  lcTq (ysF f q ys) hD hx (by rw [List.length_map]; exact hn) (fun i x H Kt Kf hxi s qq => by
    obtain ⟨y, hy, rfl⟩ := of_map hxi
    exact hs i y H Kt Kf hy s (fun e H4 s4 => qq.yes _ _ s4 (by unfold ysF; rw [hy]; exact if_pos e)) (fun e H4 s4 => qq.no _ s4 (by unfold ysF; rw [hy]; exact if_neg (by rw [e]; simp))))
    (fun H s h => hd H s (by rw [h, List.length_map, ysF_all]))
theorem lcTm (ρ f : α → V) {ys : List α} (hD : H1 D = none) (hx : SqT K H1 a (ys.map ρ)) (hn : ys.length ≤ 100000)
    (hs : ∀ (i : Nat) (y : α) (H : Hp) (Kt : V → Hp → Prop) (Kf : Hp → Prop), ys[i]? = some y → Same H1 H → (∀ H4, Same H H4 → Kt (f y) H4) → LcT g tt te vs σ (ρ y) H Kt Kf)
    (hd : ∀ H, Same H1 H → H D = some (.lst (ys.map f)) → Qd H) : LcG (Itt K a) g tt te vs σ H1 D Qd :=
  lcTf ρ f (fun _ => true) hD hx hn (fun i y H Kt Kf hy s h _ => hs i y H Kt Kf hy s (h rfl)) (fun H s h => hd H s (by rw [h, List.filter_eq_self.mpr fun _ _ => rfl]))
theorem range_get {n i : Nat} (h : i < n) : (List.range n)[i]? = some i := List.getElem?_range h
theorem lcRf {lo : Int} {n : Nat} (f : Nat → V) (q : Nat → Bool) (hD : H1 D = none) (hn : n ≤ 100000)
    (hs : ∀ (i : Nat) (H : Hp) (Kt : V → Hp → Prop) (Kf : Hp → Prop), i < n → Same H1 H → (q i = true → ∀ H4, Same H H4 → Kt (f i) H4) → (q i = false → ∀ H4, Same H H4 → Kf H4) → LcT g tt te vs σ (.int (lo + i)) H Kt Kf)
    (hd : ∀ H, Same H1 H → H D = some (.lst (((List.range n).filter q).map f)) → Qd H) : LcG (Itr lo n) g tt te vs σ H1 D Qd :=
  lcRq (ysF f q (List.range n)) hD hn (fun i H Kt Kf hi s qq =>
    hs i H Kt Kf hi s (fun e H4 s4 => qq.yes _ _ s4 (by unfold ysF; rw [range_get hi]; exact if_pos e)) (fun e H4 s4 => qq.no _ s4 (by unfold ysF; rw [range_get hi]; exact if_neg (by rw [e]; simp))))
    (fun H s h => hd H s (by have := ysF_all f q (List.range n); rw [List.length_range] at this; rw [h, this]))
theorem lcRm {lo : Int} {n : Nat} (f : Nat → V) (hD : H1 D = none) (hn : n ≤ 100000)
    (hs : ∀ (i : Nat) (H : Hp) (Kt : V → Hp → Prop) (Kf : Hp → Prop), i < n → Same H1 H → (∀ H4, Same H H4 → Kt (f i) H4) → LcT g tt te vs σ (.int (lo + i)) H Kt Kf)
    (hd : ∀ H, Same H1 H → H D = some (.lst ((List.range n).map f)) → Qd H) : LcG (Itr lo n) g tt te vs σ H1 D Qd :=
  lcRf f (fun _ => true) hD hn (fun i H Kt Kf hi s h _ => hs i H Kt Kf hi s (h rfl)) (fun H s h => hd H s (by rw [h, List.filter_eq_self.mpr fun _ _ => rfl]))
/-- items that draw from the source at s -/
theorem lcRd {lo : Int} {n : Nat} (ρ : β → V) (R : Nat → β → Prop) (h0 : Src H1 s) (hD : H1 D = none) (hn : n ≤ 100000)
    (hs : ∀ (i : Nat) (H : Hp) (Kt : V → Hp → Prop) (Kf : Hp → Prop), i < n → Dr s H1 H → (∀ b H4, Dr s H H4 → R i b → Kt (ρ b) H4) → LcT g tt te vs σ (.int (lo + i)) H Kt Kf)
    (hd : ∀ (us : List β) (H : Hp), Dr s H1 H → us.length = n → (∀ (i : Nat) (b : β), us[i]? = some b → R i b) → D ≠ s → H D = some (.lst (us.map ρ)) → Qd H) : LcG (Itr lo n) g tt te vs σ H1 D Qd :=
  have nD : D ≠ s := h0.ne hD
  lcR (fun i acc H' => Dr s H1 H' ∧ ∃ us : List β, acc = us.map ρ ∧ us.length = i ∧ ∀ (i : Nat) (b : β), us[i]? = some b → R i b)
    (fun H' s' _ => ⟨Dr.of h0 s', [], rfl, rfl, fun i b h => by cases h⟩) hD (fun i acc H' Kt Kf hi p e kk => by
      obtain ⟨dp, us, rfl, hul, hub⟩ := p
      exact hs i H' Kt Kf hi dp fun b H4 d4 hR => kk.yes _ _ (d4.app nD e) (Nat.lt_of_lt_of_le (show _ < 100001 by rw [List.length_map]; omega) (by decide)) fun H5 b5 g5 => ⟨Dr.mut (dp.trans d4) b5 hD nD.symm, us ++ [b], by rw [List.map_append]; rfl, by rw [List.length_append, hul]; rfl, fun j c hc => by
        by_cases hj : j < us.length
        · rw [List.getElem?_append_left hj] at hc; exact hub j c hc
        · have hj2 : j = i := by
            have := (List.getElem?_eq_some_iff.mp hc).1
            rw [List.length_append] at this
            simp at this; omega
          subst hj2
          rw [← hul, List.getElem?_concat_length] at hc
          cases hc; exact hR⟩)
    (fun acc H' p e => by
      obtain ⟨dp, us, rfl, hul, hub⟩ := p
      exact hd us H' dp hul hub nD e)
theorem lcLd (ρ0 : α → V) (ρ : β → V) (R : Nat → β → Prop) {ys : List α} (h0 : Src H1 s) (hD : H1 D = none) (na : a ≠ s) (hx : SqL K H1 a (ys.map ρ0)) (hn : ys.length ≤ 100000)
    (hs : ∀ (i : Nat) (y : α) (H : Hp) (Kt : V → Hp → Prop) (Kf : Hp → Prop), ys[i]? = some y → Dr s H1 H → (∀ b H4, Dr s H H4 → R i b → Kt (ρ b) H4) → LcT g tt te vs σ (ρ0 y) H Kt Kf)
    (hd : ∀ (us : List β) (H : Hp), Dr s H1 H → us.length = ys.length → (∀ (i : Nat) (b : β), us[i]? = some b → R i b) → D ≠ s → H D = some (.lst (us.map ρ)) → Qd H) : LcG (Itl K a) g tt te vs σ H1 D Qd :=
  have nD : D ≠ s := h0.ne hD
  lcL (fun i acc H' => Dr s H1 H' ∧ ∃ us : List β, acc = us.map ρ ∧ us.length = i ∧ ∀ (i : Nat) (b : β), us[i]? = some b → R i b)
    (fun H' s' _ => ⟨Dr.of h0 s', [], rfl, rfl, fun i b h => by cases h⟩) hD (fun i acc H' p => p.1.seq na hx) (fun i x acc H' Kt Kf hxi p e kk => by
      obtain ⟨y, hy, rfl⟩ := of_map hxi
      have hi := (List.getElem?_eq_some_iff.mp hy).1
      obtain ⟨dp, us, rfl, hul, hub⟩ := p
      exact hs i y H' Kt Kf hy dp fun b H4 d4 hR => kk.yes _ _ (d4.app nD e) (Nat.lt_of_lt_of_le (show _ < 100001 by rw [List.length_map]; omega) (by decide)) fun H5 b5 g5 => ⟨Dr.mut (dp.trans d4) b5 hD nD.symm, us ++ [b], by rw [List.map_append]; rfl, by rw [List.length_append, hul]; rfl, fun j c hc => by
        by_cases hj : j < us.length
        · rw [List.getElem?_append_left hj] at hc; exact hub j c hc
        · have hj2 : j = i := by
            have := (List.getElem?_eq_some_iff.mp hc).1
            rw [List.length_append] at this
            simp at this; omega
          subst hj2
          rw [← hul, List.getElem?_concat_length] at hc
          cases hc; exact hR⟩)
    (fun acc H' p e => by
      obtain ⟨dp, us, rfl, hul, hub⟩ := p
      rw [List.length_map] at hul
      exact hd us H' dp hul hub nD e)
/-- items that are new objects: R holds of each, as long as nothing but the list itself changes -/
theorem lcLs (ρ0 : α → V) {ys : List α} (R : Nat → V → Hp → Prop) (mono : ∀ i v H H' acc, R i v H → H D = some (.lst acc) → But D H H' → R i v H') (hD : H1 D = none) (hx : SqL K H1 a (ys.map ρ0)) (hn : ys.length ≤ 100000)
    (hs : ∀ (i : Nat) (y : α) (H : Hp) (Kt : V → Hp → Prop) (Kf : Hp → Prop) (acc : List V), ys[i]? = some y → Same H1 H → H D = some (.lst acc) → (∀ v H4, Same H H4 → R i v H4 → Kt v H4) → LcT g tt te vs σ (ρ0 y) H Kt Kf)
    (hd : ∀ (us : List V) (H : Hp), Same H1 H → us.length = ys.length → (∀ (i : Nat) (b : V), us[i]? = some b → R i b H) → H D = some (.lst us) → Qd H) : LcG (Itl K a) g tt te vs σ H1 D Qd :=
  lcL (fun i acc H' => Same H1 H' ∧ acc.length = i ∧ ∀ (i : Nat) (b : V), acc[i]? = some b → R i b H')
    (fun H' s' _ => ⟨s', rfl, fun i b h => by cases h⟩) hD (fun i acc H' p => p.1.seq hx) (fun i x acc H' Kt Kf hxi p e kk => by
      obtain ⟨y, hy, rfl⟩ := of_map hxi
      have hi := (List.getElem?_eq_some_iff.mp hy).1
      obtain ⟨dp, hul, hub⟩ := p
      exact hs i y H' Kt Kf acc hy dp e fun b H4 s4 hR => kk.yes _ _ (s4 _ _ e) (Nat.lt_of_lt_of_le (show _ < 100001 by omega) (by decide)) fun H5 b5 g5 => ⟨Same.mut' (dp.trans s4) b5 hD, by rw [List.length_append, hul]; rfl, fun j c hc => by
        by_cases hj : j < acc.length
        · rw [List.getElem?_append_left hj] at hc
          exact mono _ _ _ _ _ (mono _ _ _ _ _ (hub j c hc) e (Same.but s4)) (s4 _ _ e) b5
        · have hj2 : j = i := by
            have := (List.getElem?_eq_some_iff.mp hc).1
            rw [List.length_append] at this
            simp at this; omega
          subst hj2
          rw [← hul, List.getElem?_concat_length] at hc
          cases hc; exact mono _ _ _ _ _ hR (s4 _ _ e) b5⟩)
    (fun acc H' p e => by
      obtain ⟨dp, hul, hub⟩ := p
      rw [List.length_map] at hul
      exact hd acc H' dp hul hub e)
/-- items that are drawn and are new objects -/
theorem lcRo {lo : Int} {n : Nat} (R : Nat → V → Hp → Prop) (monoD : ∀ i v H H' acc, R i v H → H D = some (.lst acc) → But D H H' → R i v H') (monoS : ∀ i v H H', R i v H → Src H s → Dr s H H' → R i v H') (h0 : Src H1 s) (hD : H1 D = none) (hn : n ≤ 100000)
    (hs : ∀ (i : Nat) (H : Hp) (Kt : V → Hp → Prop) (Kf : Hp → Prop) (acc : List V), i < n → Dr s H1 H → H D = some (.lst acc) → (∀ v H4, Dr s H H4 → R i v H4 → Kt v H4) → LcT g tt te vs σ (.int (lo + i)) H Kt Kf)
    (hd : ∀ (us : List V) (H : Hp), Dr s H1 H → us.length = n → (∀ (i : Nat) (b : V), us[i]? = some b → R i b H) → D ≠ s → H D = some (.lst us) → Qd H) : LcG (Itr lo n) g tt te vs σ H1 D Qd :=
  have nD : D ≠ s := h0.ne hD
  lcR (fun i acc H' => Dr s H1 H' ∧ acc.length = i ∧ ∀ (i : Nat) (b : V), acc[i]? = some b → R i b H')
    (fun H' s' _ => ⟨Dr.of h0 s', rfl, fun i b h => by cases h⟩) hD (fun i acc H' Kt Kf hi p e kk => by
      obtain ⟨dp, hul, hub⟩ := p
      exact hs i H' Kt Kf acc hi dp e fun b H4 d4 hR => kk.yes _ _ (d4.app nD e) (Nat.lt_of_lt_of_le (show _ < 100001 by omega) (by decide)) fun H5 b5 g5 => ⟨Dr.mut (dp.trans d4) b5 hD nD.symm, by rw [List.length_append, hul]; rfl, fun j c hc => by
        by_cases hj : j < acc.length
        · rw [List.getElem?_append_left hj] at hc
          exact monoD _ _ _ _ _ (monoS _ _ _ _ (hub j c hc) dp.s d4) (d4.app nD e) b5
        · have hj2 : j = i := by
            have := (List.getElem?_eq_some_iff.mp hc).1
            rw [List.length_append] at this
            simp at this; omega
          subst hj2
          rw [← hul, List.getElem?_concat_length] at hc
          cases hc; exact monoD _ _ _ _ _ hR (d4.app nD e) b5⟩)
    (fun acc H' p e => by
      obtain ⟨dp, hul, hub⟩ := p
      exact hd acc H' dp hul hub nD e)
/-- over a list that stands for another one -/
theorem lcLr {xs : List V} {qs : List α} (f : α → V) (q : α → Bool) (hl : xs.length = qs.length) (hD : H1 D = none) (hx : SqL K H1 a xs) (hn : xs.length ≤ 100000)
    (hs : ∀ (i : Nat) (x : V) (y : α) (H : Hp) (Kt : V → Hp → Prop) (Kf : Hp → Prop), xs[i]? = some x → qs[i]? = some y → Same H1 H → (q y = true → ∀ H4, Same H H4 → Kt (f y) H4) → (q y = false → ∀ H4, Same H H4 → Kf H4) → LcT g tt te vs σ x H Kt Kf)
    (hd : ∀ H, Same H1 H → H D = some (.lst ((qs.filter q).map f)) → Qd H) : LcG (Itl K a) g tt te vs σ H1 D Qd :=
  lcLq (ysF f q qs) hD hx hn (fun i x H Kt Kf hxi s qq => by
    have hi := (List.getElem?_eq_some_iff.mp hxi).1
    have hy : qs[i]? = some qs[i] := List.getElem?_eq_getElem (by omega)
    exact hs i x _ H Kt Kf hxi hy s (fun e H4 s4 => qq.yes _ _ s4 (by unfold ysF; rw [hy]; exact if_pos e)) (fun e H4 s4 => qq.no _ s4 (by unfold ysF; rw [hy]; exact if_neg (by rw [e]; simp))))
    (fun H s h => hd H s (by rw [h, hl, ysF_all]))
/-- over zip, by places -/
theorem lcZf {xs zs : List V} {n : Nat} (X Z f : Nat → V) (q : Nat → Bool) (lx : xs.length = n) (lz : zs.length = n) (hX : ∀ i, i < n → xs[i]? = some (X i)) (hZ : ∀ i, i < n → zs[i]? = some (Z i)) (hD : H1 D = none) (hx : SqL K H1 a xs) (hz : SqL K H1 b zs) (hn : n ≤ 100000)
    (hs : ∀ (i : Nat) (T : Addr) (H : Hp) (Kt : V → Hp → Prop) (Kf : Hp → Prop), i < n → Same H1 H → H T = some (.tup [X i, Z i]) → (q i = true → ∀ H4, Same H H4 → Kt (f i) H4) → (q i = false → ∀ H4, Same H H4 → Kf H4) → LcT g tt te vs σ (.ref T) H Kt Kf)
    (hd : ∀ H, Same H1 H → H D = some (.lst (((List.range n).filter q).map f)) → Qd H) : LcG (Itz K a b) g tt te vs σ H1 D Qd :=
  lcZq (xs := xs) (zs := zs) (ysF f q (List.range n)) (by rw [lx, lz]) hD hx hz (by omega) (fun i x z T H Kt Kf hxi hzi s gT qq => by
    have hi : i < n := by have := (List.getElem?_eq_some_iff.mp hxi).1; omega
    rw [hX i hi] at hxi
    rw [hZ i hi] at hzi
    cases hxi
    cases hzi
    exact hs i T H Kt Kf hi s gT (fun e H4 s4 => qq.yes _ _ s4 (by unfold ysF; rw [range_get hi]; exact if_pos e)) (fun e H4 s4 => qq.no _ s4 (by unfold ysF; rw [range_get hi]; exact if_neg (by rw [e]; simp))))
    (fun H s h => hd H s (by have := ysF_all f q (List.range n); rw [List.length_range] at this; rw [h, lx, this]))
theorem lcZm {xs zs : List V} {n : Nat} (X Z f : Nat → V) (lx : xs.length = n) (lz : zs.length = n) (hX : ∀ i, i < n → xs[i]? = some (X i)) (hZ : ∀ i, i < n → zs[i]? = some (Z i)) (hD : H1 D = none) (hx : SqL K H1 a xs) (hz : SqL K H1 b zs) (hn : n ≤ 100000)
    (hs : ∀ (i : Nat) (T : Addr) (H : Hp) (Kt : V → Hp → Prop) (Kf : Hp → Prop), i < n → Same H1 H → H T = some (.tup [X i, Z i]) → (∀ H4, Same H H4 → Kt (f i) H4) → LcT g tt te vs σ (.ref T) H Kt Kf)
    (hd : ∀ H, Same H1 H → H D = some (.lst ((List.range n).map f)) → Qd H) : LcG (Itz K a b) g tt te vs σ H1 D Qd :=
  lcZf X Z f (fun _ => true) lx lz hX hZ hD hx hz hn (fun i T H Kt Kf hi s gT h _ => hs i T H Kt Kf hi s gT (h rfl)) (fun H s h => hd H s (by rw [h, List.filter_eq_self.mpr fun _ _ => rfl]))
/-- over a list, by places -/
theorem lcLxf {xs : List V} (f : Nat → V) (q : Nat → Bool) (hD : H1 D = none) (hx : SqL K H1 a xs) (hn : xs.length ≤ 100000)
    (hs : ∀ (i : Nat) (x : V) (H : Hp) (Kt : V → Hp → Prop) (Kf : Hp → Prop), xs[i]? = some x → Same H1 H → (q i = true → ∀ H4, Same H H4 → Kt (f i) H4) → (q i = false → ∀ H4, Same H H4 → Kf H4) → LcT g tt te vs σ x H Kt Kf)
    (hd : ∀ H, Same H1 H → H D = some (.lst (((List.range xs.length).filter q).map f)) → Qd H) : LcG (Itl K a) g tt te vs σ H1 D Qd :=
  lcLq (ysF f q (List.range xs.length)) hD hx hn (fun i x H Kt Kf hxi s qq => by
    have hi := (List.getElem?_eq_some_iff.mp hxi).1
    exact hs i x H Kt Kf hxi s (fun e H4 s4 => qq.yes _ _ s4 (by unfold ysF; rw [range_get hi]; exact if_pos e)) (fun e H4 s4 => qq.no _ s4 (by unfold ysF; rw [range_get hi]; exact if_neg (by rw [e]; simp))))
    (fun H s h => hd H s (by have := ysF_all f q (List.range xs.length); rw [List.length_range] at this; rw [h, this]))
theorem lcLx {xs : List V} (f : Nat → V) (hD : H1 D = none) (hx : SqL K H1 a xs) (hn : xs.length ≤ 100000)
    (hs : ∀ (i : Nat) (x : V) (H : Hp) (Kt : V → Hp → Prop) (Kf : Hp → Prop), xs[i]? = some x → Same H1 H → (∀ H4, Same H H4 → Kt (f i) H4) → LcT g tt te vs σ x H Kt Kf)
    (hd : ∀ H, Same H1 H → H D = some (.lst ((List.range xs.length).map f)) → Qd H) : LcG (Itl K a) g tt te vs σ H1 D Qd :=
  lcLxf f (fun _ => true) hD hx hn (fun i x H Kt Kf hx s h _ => hs i x H Kt Kf hx s (h rfl)) (fun H s h => hd H s (by rw [h, List.filter_eq_self.mpr fun _ _ => rfl]))
end
theorem all_true (n : Nat) : ((List.range n).map fun _ => true).all id = true := by simp
theorem bls (n : Nat) (f : Nat → Bool) : (List.range n).map (fun i => V.bl (f i)) = ((List.range n).map f).map V.bl := by rw [List.map_map]; rfl
/-- isinstance(x, (T1, T2)) of plain things -/
def rIs2 (T1 T2 : String) (ans : V → String → Bool) : List V → Hp → VK → Prop := fun xs H Q => ∃ (x : V) (tp : Addr) (t : String), xs = [x, .ref tp] ∧ Ty7 H x t ∧ H tp = some (.tup [.ty T1, .ty T2]) ∧ Q (.bl (ans x t)) H
theorem call_isTy2 {X : Cx} (T1 T2 : String) (a1 a2 : V → String → Bool) (h1 : ∀ H x t, Ty7 H x t → kitB t T1 = some (a1 x t)) (h2 : ∀ H x t, Ty7 H x t → kitB t T2 = some (a2 x t)) : CallR X (.builtin "isinstance") (rIs2 T1 T2 fun x t => a1 x t || a2 x t) :=
  callR_imp call_isiT fun _ H Q ⟨x, tp, t, e, ht, hp, q⟩ => ⟨x, tp, [.ty T1, .ty T2], _, [.type T1, .type T2], _, e, hp, .cons (.ty _) (.cons (.ty _) .nil), ht.tx, kitAny_cons (b := a1 x t) (kit_ty (h1 H x t ht)) (fun e1 => kitAny_cons (b := a2 x t) (kit_ty (h2 H x t ht)) (fun e2 => by simp only [e1, e2]; rfl) (fun e2 => by simp only [e1, e2]; rfl)) (fun e1 => by simp only [e1]; rfl), q⟩
theorem is_strtup {X : Cx} : CallR X (.builtin "isinstance") (rIs2 "str" "tuple" fun _ t => decide (t = "str") || decide (t = "tuple")) := call_isTy2 _ _ (fun _ t => decide (t = "str")) (fun _ t => decide (t = "tuple")) (fun _ _ _ h => h.ks) (fun _ _ _ h => h.kt)
/-- a list or a tuple -/
def SqE (K : PySem.W.Frag) (H : Hp) (a : Addr) (xs : List V) : Prop := SqL K H a xs ∨ SqT K H a xs
theorem SqE.same {K : PySem.W.Frag} {H H' : Hp} {a : Addr} {xs : List V} (h : SqE K H a xs) (s : Same H H') : SqE K H' a xs := h.imp (fun h => s.seq h) (fun h => Same.seqT s h)
theorem But.seqT {K : PySem.W.Frag} {H H' : Hp} {a b : Addr} {xs : List V} (e : But a H H') (n : b ≠ a) (h : SqT K H b xs) : SqT K H' b xs := by
  rcases h with (h | ⟨o, h⟩) | h
  · exact .inl (.inl (e _ _ n h))
  · exact .inl (.inr ⟨o, e _ _ n h⟩)
  · exact .inr h
theorem SqE.but {K : PySem.W.Frag} {H H' : Hp} {a b : Addr} {xs : List V} (h : SqE K H b xs) (e : But a H H') (n : b ≠ a) : SqE K H' b xs := h.imp (fun h => e.seq n h) (fun h => e.seqT n h)
theorem ixE {K : PySem.W.Frag} {H : Hp} {a : Addr} {xs : List V} {i : Int} {v : V} {Q : VK} (h : SqE K H a xs) (e : atI xs i = some v) (q : Q v H) : rIx K (.ref a) (.int i) H Q := by
  rcases h with h | h
  · exact .inl ⟨_, _, _, _, rfl, rfl, h, e, q⟩
  · exact .inr (.inl ⟨_, _, _, _, rfl, rfl, h, e, q⟩)
theorem atI_add {xs : List V} {f i : Nat} {v : V} (h : xs[f + i]? = some v) : atI xs ((f : Int) + (i : Int)) = some v := by
  rw [← Int.natCast_add]; exact atI_nat h
theorem pick_list {α : Type} {P : V → α → Prop} : ∀ (us : List V), (∀ (i : Nat) (v : V), us[i]? = some v → ∃ t, P v t) → ∃ ts : List α, us.length = ts.length ∧ ∀ (i : Nat) (v : V) (t : α), us[i]? = some v → ts[i]? = some t → P v t
  | [], _ => ⟨[], rfl, fun i v t h => by simp at h⟩
  | u :: us, h => by
    obtain ⟨t, ht⟩ := h 0 u rfl
    obtain ⟨ts, hl, hts⟩ := pick_list us fun i v hv => h (i + 1) v hv
    refine ⟨t :: ts, by rw [List.length_cons, List.length_cons, hl], fun i v t' hv ht' => ?_⟩
    cases i with
    | zero => cases hv; cases ht'; exact ht
    | succ i => exact hts i v t' hv ht'
end My

open PySem L2 My
/-! ### short steps -/
local macro_rules | `(tactic| tm_at "hp") => `(tactic| first
  | with_reducible assumption
  | exact upd_same
  | (with_reducible refine upd_keep ?hpn ?hpr; (case hpn => with_reducible assumption); (case hpr => tm_at "hp"))
  | (refine Eq.trans (upd_ne ?hpn) ?hpr; (case hpn => tm_at "ne"); (case hpr => tm_at "hp"))
  | (refine' Same.app ?hps ?hpr; (case hps => with_reducible assumption); (case hpr => tm_at "hp"))
  | (refine' Dr.app ?hps ?hpn ?hpr; (case hps => with_reducible assumption); (case hpr => tm_at "hp"); (case hpn => tm_at "ne"))
  | (refine' But.app ?hps ?hpn ?hpr; (case hps => with_reducible assumption); (case hpr => tm_at "hp"); (case hpn => tm_at "ne")))
local macro_rules | `(tactic| tm_at "ne") => `(tactic| first
  | with_reducible assumption
  | (with_reducible refine Ne.symm ?nes; (case nes => with_reducible assumption))
  | (refine' ne_of_none ?nea ?neb; (case neb => with_reducible assumption); (case nea => tm_at "hp"))
  | (refine' Src.ne ?nea ?neb; (case neb => with_reducible assumption); (case nea => tm_at "sr"))
  | (refine' Ne.symm (Src.ne ?nea ?neb); (case neb => with_reducible assumption); (case nea => tm_at "sr"))
  | (refine' Ne.symm (ne_of_none ?nea ?neb); (case neb => with_reducible assumption); (case nea => tm_at "hp")))
/-- a list, a tuple that stands -/
local macro_rules | `(tactic| tm_at "sql") => `(tactic| first
  | with_reducible assumption
  | (refine sqL ?sqa; (case sqa => tm_at "hp"))
  | (refine' Same.seq ?sqs ?sqa; (case sqs => with_reducible assumption); (case sqa => tm_at "sql"))
  | (refine' Dr.seq ?sqs ?sqn ?sqa; (case sqs => with_reducible assumption); (case sqa => tm_at "sql"); (case sqn => tm_at "ne"))
  | (refine' But.seq ?sqs ?sqn ?sqa; (case sqs => with_reducible assumption); (case sqa => tm_at "sql"); (case sqn => tm_at "ne")))
/-- all but a stands; all stands -/
local macro_rules | `(tactic| tm_at "bt") => `(tactic| first
  | with_reducible assumption
  | with_reducible exact But.refl
  | (with_reducible refine But.upd ?btx; (case btx => tm_at "bt"))
  | (with_reducible refine But.new ?btx ?bty; (case bty => with_reducible assumption); (case btx => tm_at "bt"))
  | (refine' But.trans ?btx ?bty; (case bty => with_reducible assumption); (case btx => tm_at "bt"))
  | (refine' But.trans ?btx (Same.but ?bty); (case bty => with_reducible assumption); (case btx => tm_at "bt")))
local macro_rules | `(tactic| tm_at "sm") => `(tactic| first
  | with_reducible assumption
  | with_reducible exact Same.refl _
  | (with_reducible refine Same.new ?btx ?bty; (case bty => with_reducible assumption); (case btx => tm_at "sm"))
  | (with_reducible refine Same.mut ?btx ?bty; (case bty => with_reducible assumption); (case btx => tm_at "sm"))
  | (refine' Same.mut' ?btx ?bty ?btn; (case bty => with_reducible assumption); (case btx => tm_at "sm"); (case btn => tm_at "fr"))
  | (refine' Same.trans ?btx ?bty; (case bty => with_reducible assumption); (case btx => tm_at "sm")))
/-- the source stands; draws from there to here -/
local macro_rules | `(tactic| tm_at "sr") => `(tactic| first
  | with_reducible assumption
  | (refine' Dr.s ?srd; (case srd => with_reducible assumption))
  | (refine' Src.same ?srh ?srd; (case srd => with_reducible assumption); (case srh => tm_at "sr"))
  | (refine' Src.but ?srh ?srd ?srn; (case srd => with_reducible assumption); (case srh => tm_at "sr"); (case srn => tm_at "ne")))
local macro_rules | `(tactic| tm_at "dr") => `(tactic| first
  | with_reducible assumption
  | (refine' Dr.trans ?drx ?dry; (case dry => with_reducible assumption); (case drx => tm_at "dr"))
  | (refine' Dr.same ?drx ?dry; (case dry => with_reducible assumption); (case drx => tm_at "dr"))
  | (refine' Dr.mut ?drx ?dry ?drn ?drm; (case dry => with_reducible assumption); (case drx => tm_at "dr"); (case drn => tm_at "fr"); (case drm => tm_at "ne"))
  | (refine' Dr.of ?drx ?dry; (case drx => tm_at "sr"); (case dry => tm_at "sm"))
  | (refine Dr.refl ?drx; (case drx => tm_at "sr")))
/-- nothing stood there -/
local macro_rules | `(tactic| tm_at "fr") => `(tactic| first
  | with_reducible assumption
  | (refine' Same.free ?frs ?frh; (case frh => with_reducible assumption); (case frs => tm_at "sm"))
  | (refine' Dr.free ?frs ?frh ?frn; (case frh => with_reducible assumption); (case frs => tm_at "dr"); (case frn => tm_at "ne")))
/-- an int's condition -/
local macro_rules | `(tactic| tm_at "ic") => `(tactic| first
  | assumption
  | omega
  | exact Nat.le_of_ble_eq_true rfl
  | exact ⟨by decide, by decide +kernel⟩
  | exact Or.inr ⟨by omega, by omega⟩
  | exact Or.inl ⟨by omega, by omega⟩
  | exact Or.inr ⟨by decide, by decide⟩
  | exact ⟨by decide, by decide, by decide⟩
  | exact wide_div (b := 64) (by omega) (by omega) (by decide) (by decide)
  | decide
  | tm_at "sr")
/-- a plain thing's kind -/
local macro_rules | `(tactic| tm_at "t7") => `(tactic| first
  | with_reducible assumption
  | with_reducible exact Ty7.int _
  | with_reducible exact Ty7.bl _
  | with_reducible exact Ty7.non
  | with_reducible exact Ty7.str _
  | (refine' Ty7.lst ?t7h; (case t7h => tm_at "hp"))
  | (refine' Ty7.tup ?t7h; (case t7h => tm_at "hp")))
/-- one step of a reading -/
local macro_rules | `(tactic| tm_at "rd") => `(tactic| first
  | refine ⟨_, rfl, ?_⟩
  | refine ⟨_, _, rfl, rfl, ?_⟩
  | (refine And.intro ?rdc ?_; (case rdc => (first | tm_at "ic" | (dsimp only; tm_at "ic"))))
  | refine ⟨_, _, rfl, ?_⟩
  | refine ⟨rfl, ?_⟩
  | (refine' ⟨_, _, rfl, ?rd7, ?_⟩; (case rd7 => tm_at "t7"))
  | (refine' ⟨_, _, rfl, Or.inl ⟨_, ?rdl, rfl⟩, ?_⟩; (case rdl => tm_at "sql"))
  | refine Or.inl ⟨_, rfl, ?_⟩
  | refine Or.inr ⟨_, rfl, ?_⟩)
local macro_rules | `(tactic| tm_at "rds") => `(tactic| repeat (tm_at "rd"))
/-- a tuple that stands -/
local macro_rules | `(tactic| tm_at "sqt") => `(tactic| first
  | with_reducible assumption
  | (refine sqT ?sqa; (case sqa => tm_at "hp"))
  | (refine' Same.seqT ?sqs ?sqa; (case sqs => with_reducible assumption); (case sqa => tm_at "sqt"))
  | (refine' Dr.seqT ?sqs ?sqn ?sqa; (case sqs => with_reducible assumption); (case sqa => tm_at "sqt"); (case sqn => tm_at "ne")))
/-- more steps: tests that are plain, items by a plain index, the length of a tuple -/
local macro_rules | `(tactic| tm_at "rz") => `(tactic| first
  | (refine' And.intro (Or.inl (And.intro rfl (Exists.intro _ ?rzt))) ?_; (case rzt => tm_at "sql"))
  | tm_at "rd"
  | (refine' ⟨_, _, rfl, Or.inr ⟨_, ?rdl, rfl⟩, ?_⟩; (case rdl => tm_at "sqt"))
  | (refine' ⟨_, _, _, _, rfl, rfl, ?rzl, ?rzi, ?_⟩; (case rzl => (first | tm_at "sql" | tm_at "sqt")); (case rzi => exact rfl))
  | (refine iteF' ?rzb ?_; (case rzb => (first | with_reducible rfl | rfl | decide)))
  | (refine iteT' ?rzb ?_; (case rzb => (first | with_reducible rfl | rfl | decide))))
local macro_rules | `(tactic| tm_at "rzs") => `(tactic| repeat (tm_at "rz"))
/-- .. up to an if that has something behind it -/
local macro_rules | `(tactic| tm_at "rzi") => `(tactic| repeat ((try dsimp only [gName]); (fail_if_success (with_reducible refine isIf ?_)); tm_at "rz"))
/-! ### totals dealt by caps and weights: plain mathematics -/
namespace My
open PySem L2
/-- the sum of f over some places -/
def S (f : Nat → Int) (R : List Nat) : Int := (R.map f).sum
theorem S_nil (f : Nat → Int) : S f [] = 0 := rfl
theorem S_cons (f : Nat → Int) (i : Nat) (R : List Nat) : S f (i :: R) = f i + S f R := by unfold S; rw [List.map_cons, List.sum_cons]
theorem S_append (f : Nat → Int) (R T : List Nat) : S f (R ++ T) = S f R + S f T := by unfold S; rw [List.map_append, List.sum_append]
theorem S_nonneg {f : Nat → Int} : ∀ {R : List Nat}, (∀ i ∈ R, 0 ≤ f i) → 0 ≤ S f R
  | [], _ => Int.le_refl 0
  | i :: R, h => by
    rw [S_cons]
    have h1 := h i (List.mem_cons_self ..)
    have h2 := S_nonneg (R := R) fun j hj => h j (List.mem_cons_of_mem _ hj)
    omega
theorem S_le {f g : Nat → Int} : ∀ {R : List Nat}, (∀ i ∈ R, f i ≤ g i) → S f R ≤ S g R
  | [], _ => Int.le_refl 0
  | i :: R, h => by
    rw [S_cons, S_cons]
    have h1 := h i (List.mem_cons_self ..)
    have h2 := S_le (R := R) fun j hj => h j (List.mem_cons_of_mem _ hj)
    omega
theorem S_lt {f g : Nat → Int} : ∀ {R : List Nat}, (∀ i ∈ R, f i < g i) → R ≠ [] → S f R < S g R
  | [], _, h => absurd rfl h
  | i :: R, h, _ => by
    rw [S_cons, S_cons]
    have h1 := h i (List.mem_cons_self ..)
    have h2 := S_le (R := R) fun j hj => Int.le_of_lt (h j (List.mem_cons_of_mem _ hj))
    omega
theorem S_congr {f g : Nat → Int} : ∀ {R : List Nat}, (∀ i ∈ R, f i = g i) → S f R = S g R
  | [], _ => rfl
  | i :: R, h => by
    rw [S_cons, S_cons, h i (List.mem_cons_self ..), S_congr (R := R) fun j hj => h j (List.mem_cons_of_mem _ hj)]
theorem S_mul (c : Int) (f : Nat → Int) : ∀ R : List Nat, S (fun i => c * f i) R = c * S f R
  | [] => (Int.mul_zero c).symm
  | i :: R => by rw [S_cons, S_cons, S_mul c f R, Int.mul_add]
theorem S_mul_r (c : Int) (f : Nat → Int) : ∀ R : List Nat, S (fun i => f i * c) R = S f R * c
  | [] => (Int.zero_mul c).symm
  | i :: R => by rw [S_cons, S_cons, S_mul_r c f R, Int.add_mul]
theorem S_split (f : Nat → Int) (p : Nat → Bool) : ∀ R : List Nat, S f R = S f (R.filter p) + S f (R.filter fun i => !p i)
  | [] => rfl
  | i :: R => by
    rw [S_cons, S_split f p R, List.filter_cons, List.filter_cons]
    cases h : p i with
    | true => simp only [Bool.not_true, if_true, Bool.false_eq_true, if_false]; rw [S_cons]; omega
    | false => simp only [Bool.not_false, if_true, Bool.false_eq_true, if_false]; rw [S_cons]; omega
theorem S_bound {f : Nat → Int} {c : Int} : ∀ {R : List Nat}, (∀ i ∈ R, f i ≤ c) → S f R ≤ c * R.length
  | [], _ => by simp [S_nil]
  | i :: R, h => by
    rw [S_cons, List.length_cons]
    have h1 := h i (List.mem_cons_self ..)
    have h2 := S_bound (R := R) fun j hj => h j (List.mem_cons_of_mem _ hj)
    have e : c * ((R.length + 1 : Nat) : Int) = c * R.length + c := by rw [Int.natCast_add, Int.mul_add]; simp
    omega
abbrev natsV (ch : List Nat) : List V := ch.map fun i : Nat => V.int (i : Int)
def wAt (ws : List Int) (i : Nat) : Int := ws.getD i 0
/-! #### the level -/
/-- what the removed ones keep: cap ≤ level times weight, while the level T / W only rises -/
theorem rise {T W C V : Int} (hW : 0 < W) (hC : C * W ≤ T * V) : T * (W - V) ≤ (T - C) * W := by
  rw [Int.mul_sub, Int.sub_mul]; omega
theorem keep_cap {c w T W T' W' : Int} (hW : 0 < W) (hw : 0 ≤ w) (hW' : 0 ≤ W') (h : c * W ≤ T * w) (hr : T * W' ≤ T' * W) : c * W' ≤ T' * w := by
  have h1 : c * W * W' ≤ T * w * W' := Int.mul_le_mul_of_nonneg_right h hW'
  have h2 : T * W' * w ≤ T' * W * w := Int.mul_le_mul_of_nonneg_right hr hw
  have e1 : c * W * W' = c * W' * W := by rw [Int.mul_assoc, Int.mul_comm W W', ← Int.mul_assoc]
  have e2 : T * w * W' = T * W' * w := by rw [Int.mul_assoc, Int.mul_comm w W', ← Int.mul_assoc]
  have e3 : T' * W * w = T' * w * W := by rw [Int.mul_assoc, Int.mul_comm W w, ← Int.mul_assoc]
  exact Int.le_of_mul_le_mul_right (by rw [← e1, ← e3]; omega) hW
/-- behind the rest: what is weighed so far -/
def pre (w : Nat → Int) (p : Nat → Bool) : Nat → Int
  | 0 => 0
  | i + 1 => pre w p i + if p i then w i else 0
/-- what one gets by running sums -/
def part (t b beh w : Int) : Int := t * (beh + w) / b - t * beh / b
/-- the pairs that running tells -/
def runD (t b : Int) (w : Nat → Int) : List Nat → Int → List (Nat × Int)
  | [], _ => []
  | i :: r, beh => (i, part t b beh (w i)) :: runD t b w r (beh + w i)
theorem runD_append (t b : Int) (w : Nat → Int) (i : Nat) : ∀ (l : List Nat) (beh : Int), runD t b w (l ++ [i]) beh = runD t b w l beh ++ [(i, part t b (beh + S w l) (w i))]
  | [], beh => by simp [runD, S_nil]
  | j :: l, beh => by
    rw [List.cons_append]
    simp only [runD]
    rw [runD_append t b w i l (beh + w j), S_cons, Int.add_assoc, List.cons_append]
theorem runD_fst (t b : Int) (w : Nat → Int) : ∀ (l : List Nat) (beh : Int), (runD t b w l beh).map (·.1) = l
  | [], _ => rfl
  | i :: l, beh => by simp only [runD, List.map_cons]; rw [runD_fst t b w l]
theorem pre_eq (w : Nat → Int) (p : Nat → Bool) : ∀ n, pre w p n = S w ((List.range n).filter p)
  | 0 => rfl
  | n + 1 => by
    rw [List.range_succ, List.filter_append, S_append, ← pre_eq w p n]
    simp only [pre, List.filter_cons, List.filter_nil]
    cases p n <;> simp [S_cons, S_nil]
theorem runD_range (t b : Int) (w : Nat → Int) (p : Nat → Bool) : ∀ n, ∀ q ∈ runD t b w ((List.range n).filter p) 0, p q.1 = true ∧ q.1 < n ∧ q.2 = part t b (pre w p q.1) (w q.1)
  | 0, q, h => by simp [runD] at h
  | n + 1, q, h => by
    rw [List.range_succ, List.filter_append] at h
    cases hp : p n with
    | false =>
      rw [List.filter_cons, hp] at h
      simp only [Bool.false_eq_true, if_false, List.filter_nil, List.append_nil] at h
      obtain ⟨h1, h2, h3⟩ := runD_range t b w p n q h
      exact ⟨h1, by omega, h3⟩
    | true =>
      rw [List.filter_cons, hp] at h
      simp only [if_true, List.filter_nil] at h
      rw [runD_append] at h
      rcases List.mem_append.mp h with h | h
      · obtain ⟨h1, h2, h3⟩ := runD_range t b w p n q h
        exact ⟨h1, by omega, h3⟩
      · simp only [List.mem_singleton] at h
        subst h
        exact ⟨hp, by simp, by simp [pre_eq]⟩
/-- found, set by pairs -/
def putAll (f : List Int) (ps : List (Nat × Int)) : List Int := ps.foldl (fun f q => f.set q.1 q.2) f
theorem putAll_len : ∀ (ps : List (Nat × Int)) (f : List Int), (putAll f ps).length = f.length
  | [], _ => rfl
  | q :: ps, f => by
    show (putAll (f.set q.1 q.2) ps).length = _
    rw [putAll_len ps, List.length_set]
theorem putAll_out {i : Nat} : ∀ (ps : List (Nat × Int)) (f : List Int), i ∉ ps.map (·.1) → (putAll f ps)[i]? = f[i]?
  | [], _, _ => rfl
  | q :: ps, f, h => by
    show (putAll (f.set q.1 q.2) ps)[i]? = _
    rw [List.map_cons, List.mem_cons, not_or] at h
    rw [putAll_out ps _ h.2, List.getElem?_set_ne (fun e => h.1 e.symm)]
theorem putAll_in {g : Nat → Int} {i : Nat} : ∀ (ps : List (Nat × Int)) (f : List Int), (∀ q ∈ ps, q.2 = g q.1) → i ∈ ps.map (·.1) → i < f.length → (putAll f ps)[i]? = some (g i)
  | [], _, _, h, _ => by simp at h
  | q :: ps, f, hg, h, hl => by
    show (putAll (f.set q.1 q.2) ps)[i]? = _
    by_cases hm : i ∈ ps.map (·.1)
    · exact putAll_in ps _ (fun r hr => hg r (List.mem_cons_of_mem _ hr)) hm (by rw [List.length_set]; exact hl)
    · rw [putAll_out ps _ hm]
      rw [List.map_cons, List.mem_cons] at h
      rcases h with e | h
      · subst e
        rw [List.getElem?_set_self hl, hg q (List.mem_cons_self ..)]
      · exact absurd h hm
/-! #### the spec, and the loop -/
def capN (cap : Nat → Option Int) (i : Nat) : Int := (cap i).getD 0
/-- who has weight -/
def wtd (n : Nat) (w : Nat → Int) : List Nat := (List.range n).filter fun i => decide (0 < w i)
/-- the cap is no more than level times weight -/
def heldB (t b : Int) (w : Nat → Int) (cap : Nat → Option Int) (i : Nat) : Bool := match cap i with
  | some c => decide (c * b ≤ t * w i)
  | none => false
/-- who is dealt to by the level -/
def restB (t b : Int) (w : Nat → Int) (cap : Nat → Option Int) (i : Nat) : Bool := decide (0 < w i) && !heldB t b w cap i
def less (c : Option Int) (b x : Int) : Int := match c with
  | some c => min (c * b) x
  | none => x
structure Dealt (n : Nat) (w : Nat → Int) (cap : Nat → Option Int) (total : Int) (lv : Option (Int × Int)) (fs : List Int) : Prop where
  len : fs.length = n
  zero : ∀ i, i < n → w i ≤ 0 → fs[i]? = some 0
  non : lv = none → (∀ i, i < n → 0 < w i → ∃ c, cap i = some c ∧ fs[i]? = some c) ∧ S (capN cap) (wtd n w) ≤ total
  lev : ∀ t b, lv = some (t, b) → 0 ≤ t ∧ 0 < b ∧ Int.gcd t b = 1 ∧ ¬ ((∀ i, i < n → 0 < w i → (cap i).isSome = true) ∧ S (capN cap) (wtd n w) ≤ total) ∧
    S (fun i => less (cap i) b (t * w i)) (wtd n w) = total * b ∧
    ∀ i, i < n → 0 < w i → fs[i]? = some (if heldB t b w cap i then capN cap i else part t b (pre w (restB t b w cap) i) (w i))
/-- between two turns: who is left (p), what is left (T) -/
structure DI (n : Nat) (w : Nat → Int) (cap : Nat → Option Int) (total : Int) (p : Nat → Bool) (T : Int) (f : List Int) : Prop where
  len : f.length = n
  pw : ∀ i, i < n → p i = true → 0 < w i
  tn : 0 ≤ T
  out : ∀ i, i < n → 0 < w i → p i = false → ∃ c, cap i = some c ∧ f[i]? = some c ∧ c * S w ((List.range n).filter p) ≤ T * w i
  yet : ∀ i, i < n → (p i = true ∨ w i ≤ 0) → f[i]? = some 0
  sum : T + S (capN cap) ((List.range n).filter fun i => decide (0 < w i) && !p i) = total
section
variable {n : Nat} {w : Nat → Int} {cap : Nat → Option Int} {total T : Int} {p : Nat → Bool} {f : List Int}
theorem filter_congr' {q r : Nat → Bool} {l : List Nat} (h : ∀ i ∈ l, q i = r i) : l.filter q = l.filter r := List.filter_congr h
theorem DI.start (h0 : 0 ≤ total) : DI n w cap total (fun i => decide (0 < w i)) total (List.replicate n 0) := by
  refine ⟨List.length_replicate, fun i _ h => of_decide_eq_true h, h0, fun i _ h1 h2 => absurd h1 (of_decide_eq_false h2), fun i hi _ => by rw [List.getElem?_replicate, if_pos hi], ?_⟩
  have e : ((List.range n).filter fun i => decide (0 < w i) && !decide (0 < w i)) = [] := by
    rw [List.filter_eq_nil_iff]
    intro i _
    cases decide (0 < w i) <;> simp
  rw [e, S_nil]; omega
/-- nobody is left -/
theorem DI.fin0 (d : DI n w cap total p T f) (he : (List.range n).filter p = []) : Dealt n w cap total none f := by
  have hp : ∀ i, i < n → p i = false := fun i hi => by
    have := List.filter_eq_nil_iff.mp he i (List.mem_range.mpr hi)
    simpa using this
  refine ⟨d.len, fun i hi h => d.yet i hi (.inr h), fun _ => ⟨fun i hi h => ?_, ?_⟩, fun t b h => by cases h⟩
  · obtain ⟨c, h1, h2, _⟩ := d.out i hi h (hp i hi)
    exact ⟨c, h1, h2⟩
  · have e : wtd n w = ((List.range n).filter fun i => decide (0 < w i) && !p i) := filter_congr' fun i hi => by
      rw [hp i (List.mem_range.mp hi)]; simp
    rw [e]
    have := d.sum
    have := d.tn
    omega
/-- who has no more than level times weight as a cap -/
def fullB (T W : Int) (w : Nat → Int) (cap : Nat → Option Int) (i : Nat) : Bool := heldB T W w cap i
theorem S_pos {R : List Nat} (h : ∀ i ∈ R, 0 < w i) (hne : R ≠ []) : 0 < S w R := by
  have := S_lt (f := fun _ => 0) (g := w) h hne
  have e : S (fun _ => 0) R = 0 := by
    have : ∀ R : List Nat, S (fun _ => 0) R = 0 := fun R => by
      induction R with
      | nil => rfl
      | cons i R ih => rw [S_cons, ih]; rfl
    exact this R
  omega
theorem heldB_some {t b : Int} {i : Nat} (h : heldB t b w cap i = true) : ∃ c, cap i = some c ∧ c * b ≤ t * w i := by
  unfold heldB at h
  cases e : cap i with
  | none => rw [e] at h; cases h
  | some c => rw [e] at h; exact ⟨c, rfl, of_decide_eq_true h⟩
theorem heldB_iff {t b c : Int} {i : Nat} (e : cap i = some c) : heldB t b w cap i = decide (c * b ≤ t * w i) := by
  unfold heldB
  rw [e]
theorem filter_and (q r : Nat → Bool) (l : List Nat) : (l.filter q).filter r = l.filter fun i => q i && r i := by
  rw [List.filter_filter]
  exact List.filter_congr fun i _ => by rw [Bool.and_comm]
/-- one turn -/
theorem DI.turn (d : DI n w cap total p T f) (W : Int) (hW : W = S w ((List.range n).filter p)) (hne : (List.range n).filter p ≠ []) (full : List Nat) (hfull : full = ((List.range n).filter p).filter (heldB T W w cap)) :
    DI n w cap total (fun i => p i && !heldB T W w cap i) (T - S (capN cap) full) (putAll f (full.map fun i => (i, capN cap i))) := by
  have hpos : ∀ i ∈ (List.range n).filter p, 0 < w i := fun i hi => by
    obtain ⟨h1, h2⟩ := List.mem_filter.mp hi
    exact d.pw i (List.mem_range.mp h1) h2
  have W0 : 0 < W := by rw [hW]; exact S_pos hpos hne
  have mfull : ∀ i, i ∈ full ↔ (i < n ∧ p i = true) ∧ heldB T W w cap i = true := fun i => by
    rw [hfull, List.mem_filter, List.mem_filter, List.mem_range]
  -- C * W ≤ T * V
  have hC : S (capN cap) full * W ≤ T * S w full := by
    rw [← S_mul_r, ← S_mul]
    refine S_le fun i hi => ?_
    obtain ⟨c, e, h⟩ := heldB_some ((mfull i).mp hi).2
    show (cap i).getD 0 * W ≤ T * w i
    rw [e]; exact h
  have hsp : W = S w full + S w ((List.range n).filter fun i => p i && !heldB T W w cap i) := by
    have e := S_split w (heldB T W w cap) ((List.range n).filter p)
    rw [← hfull, filter_and, ← hW] at e
    exact e
  have V0 : S w full ≤ W := by
    have : 0 ≤ S w ((List.range n).filter fun i => p i && !heldB T W w cap i) := S_nonneg fun i hi => by
      obtain ⟨h1, h2⟩ := List.mem_filter.mp hi
      have := d.pw i (List.mem_range.mp h1) (Bool.and_eq_true_iff.mp h2).1
      omega
    omega
  have T0 : 0 ≤ T - S (capN cap) full := by
    have h1 : T * S w full ≤ T * W := Int.mul_le_mul_of_nonneg_left V0 d.tn
    have h2 : S (capN cap) full * W ≤ T * W := Int.le_trans hC h1
    have := Int.le_of_mul_le_mul_right h2 W0
    omega
  have hr := rise W0 hC
  have eW' : W - S w full = S w ((List.range n).filter fun i => p i && !heldB T W w cap i) := by omega
  rw [eW'] at hr
  have W'0 : 0 ≤ S w ((List.range n).filter fun i => p i && !heldB T W w cap i) := by omega
  have fst : (full.map fun i => (i, capN cap i)).map (·.1) = full := by rw [List.map_map]; exact List.map_id'' (fun _ => rfl) _
  refine ⟨by rw [putAll_len]; exact d.len, fun i hi h => d.pw i hi (Bool.and_eq_true_iff.mp h).1, T0, fun i hi hw hp' => ?_, fun i hi h => ?_, ?_⟩
  · cases hp : p i with
    | false =>
      obtain ⟨c, h1, h2, h3⟩ := d.out i hi hw hp
      refine ⟨c, h1, ?_, ?_⟩
      · rw [putAll_out _ _ (by rw [fst]; intro hm; have := ((mfull i).mp hm).1.2; rw [hp] at this; cases this)]
        exact h2
      · rw [← hW] at h3
        exact keep_cap W0 (Int.le_of_lt hw) W'0 h3 hr
    | true =>
      have hh : heldB T W w cap i = true := by rw [hp] at hp'; simpa using hp'
      obtain ⟨c, e, h⟩ := heldB_some hh
      refine ⟨c, e, ?_, keep_cap W0 (Int.le_of_lt hw) W'0 h hr⟩
      have := putAll_in (g := capN cap) (i := i) (full.map fun i => (i, capN cap i)) f (fun q hq => by
        obtain ⟨j, _, e⟩ := List.mem_map.mp hq
        rw [← e]) (by rw [fst]; exact (mfull i).mpr ⟨⟨hi, hp⟩, hh⟩) (by rw [d.len]; exact hi)
      rw [this]
      show some ((cap i).getD 0) = some c
      rw [e]; rfl
  · have hn : i ∉ full := fun hm => by
      obtain ⟨⟨_, h1⟩, h2⟩ := (mfull i).mp hm
      rcases h with h | h
      · rw [h1, h2] at h; cases h
      · have := d.pw i hi h1; omega
    rw [putAll_out _ _ (by rw [fst]; exact hn)]
    refine d.yet i hi ?_
    rcases h with h | h
    · exact .inl (Bool.and_eq_true_iff.mp h).1
    · exact .inr h
  · have e1 : S (capN cap) ((List.range n).filter fun i => decide (0 < w i) && !(p i && !heldB T W w cap i)) = S (capN cap) full + S (capN cap) ((List.range n).filter fun i => decide (0 < w i) && !p i) := by
      have e := S_split (capN cap) p ((List.range n).filter fun i => decide (0 < w i) && !(p i && !heldB T W w cap i))
      rw [filter_and, filter_and] at e
      rw [e]
      congr 1
      · congr 1
        rw [hfull, filter_and]
        refine filter_congr' fun i hi => ?_
        have := d.pw i (List.mem_range.mp hi)
        cases hp : p i with
        | false => simp
        | true =>
          rw [decide_eq_true (this hp)]
          cases heldB T W w cap i <;> rfl
      · congr 1
        refine filter_congr' fun i _ => ?_
        cases p i <;> simp
    rw [e1]
    have := d.sum
    omega
/-- nobody is held any more: the level -/
theorem DI.fin1 (d : DI n w cap total p T f) (W : Int) (hW : W = S w ((List.range n).filter p)) (hne : (List.range n).filter p ≠ []) (hfull : ((List.range n).filter p).filter (heldB T W w cap) = []) {t b g : Int}
    (eT : T = t * g) (eW : W = b * g) (hg : 0 < g) (hgcd : Int.gcd t b = 1) :
    Dealt n w cap total (some (t, b)) (putAll f (runD t b w ((List.range n).filter p) 0)) := by
  have hpos : ∀ i ∈ (List.range n).filter p, 0 < w i := fun i hi => by
    obtain ⟨h1, h2⟩ := List.mem_filter.mp hi
    exact d.pw i (List.mem_range.mp h1) h2
  have W0 : 0 < W := by rw [hW]; exact S_pos hpos hne
  have b0 : 0 < b := Int.pos_of_mul_pos_right (by rw [Int.mul_comm] at eW; rw [← eW]; exact W0) hg
  have t0 : 0 ≤ t := by
    by_cases h : 0 ≤ t
    · exact h
    · have : t * g < 0 := Int.mul_neg_of_neg_of_pos (by omega) hg
      have := d.tn
      omega
  have cmp : ∀ c i, (c * W ≤ T * w i ↔ c * b ≤ t * w i) := fun c i => by
    have e1 : c * W = c * b * g := by rw [eW, Int.mul_assoc]
    have e2 : T * w i = t * w i * g := by rw [eT, Int.mul_assoc, Int.mul_comm g, ← Int.mul_assoc]
    rw [e1, e2]
    exact ⟨fun h => Int.le_of_mul_le_mul_right h hg, fun h => Int.mul_le_mul_of_nonneg_right h (Int.le_of_lt hg)⟩
  have hheld : ∀ i, heldB t b w cap i = heldB T W w cap i := fun i => by
    unfold heldB
    cases cap i with
    | none => rfl
    | some c => exact decide_eq_decide.mpr (cmp c i).symm
  have hrest : ∀ i, i < n → restB t b w cap i = p i := fun i hi => by
    unfold restB
    rw [hheld]
    cases hp : p i with
    | true =>
      have hw := d.pw i hi hp
      have hm : i ∈ (List.range n).filter p := List.mem_filter.mpr ⟨List.mem_range.mpr hi, hp⟩
      have hh := List.filter_eq_nil_iff.mp hfull i hm
      rw [decide_eq_true hw]
      simpa using hh
    | false =>
      by_cases hw : 0 < w i
      · obtain ⟨c, e, _, h⟩ := d.out i hi hw hp
        rw [← hW] at h
        rw [heldB_iff e, decide_eq_true h]
        simp
      · rw [decide_eq_false hw]; rfl
  have epre : ∀ i, i ≤ n → pre w (restB t b w cap) i = pre w p i := by
    intro i hi
    rw [pre_eq, pre_eq]
    congr 1
    exact filter_congr' fun j hj => hrest j (by have := List.mem_range.mp hj; omega)
  have hrun := runD_range t b w p n
  have fst : (runD t b w ((List.range n).filter p) 0).map (·.1) = (List.range n).filter p := runD_fst ..
  have hin : ∀ i, i < n → p i = true → (putAll f (runD t b w ((List.range n).filter p) 0))[i]? = some (part t b (pre w p i) (w i)) := fun i hi hp =>
    putAll_in (g := fun i => part t b (pre w p i) (w i)) _ f (fun q hq => (hrun q hq).2.2) (by rw [fst]; exact List.mem_filter.mpr ⟨List.mem_range.mpr hi, hp⟩) (by rw [d.len]; exact hi)
  have hout : ∀ i, i < n → p i = false → (putAll f (runD t b w ((List.range n).filter p) 0))[i]? = f[i]? := fun i hi hp =>
    putAll_out _ f (by rw [fst]; intro hm; have := (List.mem_filter.mp hm).2; rw [hp] at this; cases this)
  -- those who have weight: the removed and the rest
  have hsplit : ∀ g : Nat → Int, S g (wtd n w) = S g ((List.range n).filter p) + S g ((List.range n).filter fun i => decide (0 < w i) && !p i) := fun g => by
    have e := S_split g p (wtd n w)
    unfold wtd at e
    rw [filter_and, filter_and] at e
    unfold wtd
    rw [e]
    congr 1
    congr 1
    refine filter_congr' fun i hi => ?_
    cases hp : p i with
    | false => simp
    | true => rw [decide_eq_true (d.pw i (List.mem_range.mp hi) hp)]; rfl
  have outs : ∀ i ∈ (List.range n).filter fun i => decide (0 < w i) && !p i, ∃ c, cap i = some c ∧ c * b ≤ t * w i := fun i hi => by
    obtain ⟨h1, h2⟩ := List.mem_filter.mp hi
    rw [Bool.and_eq_true] at h2
    obtain ⟨c, e, _, h⟩ := d.out i (List.mem_range.mp h1) (of_decide_eq_true h2.1) (by simpa using h2.2)
    rw [← hW] at h
    exact ⟨c, e, (cmp c i).mp h⟩
  have ins : ∀ i ∈ (List.range n).filter p, ∀ c, cap i = some c → t * w i < c * b := fun i hi c e => by
    have hh := List.filter_eq_nil_iff.mp hfull i hi
    rw [heldB_iff e] at hh
    have h3 : ¬ c * b ≤ t * w i := fun z => hh (decide_eq_true ((cmp c i).mpr z))
    omega
  refine ⟨by rw [putAll_len]; exact d.len, fun i hi h => ?_, (fun h => by cases h), fun t' b' h => ?_⟩
  · have hp : p i = false := by
      cases hp : p i with
      | false => rfl
      | true => have := d.pw i hi hp; omega
    rw [hout i hi hp]
    exact d.yet i hi (.inr h)
  · cases h
    refine ⟨t0, b0, hgcd, fun ⟨h1, h2⟩ => ?_, ?_, fun i hi hw => ?_⟩
    · -- all have caps, and these come to more than the total
      have hlt : S (fun i => t * w i) ((List.range n).filter p) < S (fun i => capN cap i * b) ((List.range n).filter p) := S_lt (fun i hi => by
        obtain ⟨ha, hb⟩ := List.mem_filter.mp hi
        have hs := h1 i (List.mem_range.mp ha) (hpos i hi)
        obtain ⟨c, e⟩ := Option.isSome_iff_exists.mp hs
        have := ins i hi c e
        show t * w i < (cap i).getD 0 * b
        rw [e]; exact this) hne
      rw [S_mul, S_mul_r, ← hW] at hlt
      have e1 : t * W = T * b := by rw [eT, eW, Int.mul_comm b g, ← Int.mul_assoc]
      rw [e1] at hlt
      have hlt2 := Int.lt_of_mul_lt_mul_right hlt (Int.le_of_lt b0)
      rw [hsplit] at h2
      have := d.sum
      omega
    · rw [hsplit]
      have e1 : S (fun i => less (cap i) b (t * w i)) ((List.range n).filter p) = t * W := by
        rw [hW, ← S_mul]
        refine S_congr fun i hi => ?_
        cases e : cap i with
        | none => simp [less]
        | some c =>
          have := ins i hi c e
          simp only [less]
          omega
      have e2 : S (fun i => less (cap i) b (t * w i)) ((List.range n).filter fun i => decide (0 < w i) && !p i) = S (capN cap) ((List.range n).filter fun i => decide (0 < w i) && !p i) * b := by
        rw [← S_mul_r]
        refine S_congr fun i hi => ?_
        obtain ⟨c, e, h⟩ := outs i hi
        unfold capN
        rw [e]
        simp only [less, Option.getD_some]
        omega
      rw [e1, e2]
      have e3 : t * W = T * b := by rw [eT, eW, Int.mul_comm b g, ← Int.mul_assoc]
      rw [e3, ← Int.add_mul, d.sum]
    · cases hp : p i with
      | true =>
        have hr := hrest i hi
        rw [hp] at hr
        unfold restB at hr
        rw [Bool.and_eq_true] at hr
        have hh : heldB t b w cap i = false := by simpa using hr.2
        rw [hin i hi hp, hh, epre i (Nat.le_of_lt hi)]
        rfl
      | false =>
        obtain ⟨c, e, h1, h2⟩ := d.out i hi hw hp
        rw [← hW] at h2
        rw [hout i hi hp, h1, heldB_iff e, decide_eq_true ((cmp c i).mp h2)]
        unfold capN
        rw [e]; rfl
end
/-! #### lists of places, levels as values -/
theorem lcYs_range (n : Nat) (p : Nat → Bool) (ys : Nat → Option V) (h : ∀ i, i < n → ys i = if p i = true then some (.int (i : Int)) else none) : lcYs n ys = natsV ((List.range n).filter p) := by
  have key : ∀ m, m ≤ n → lcYs m ys = natsV ((List.range m).filter p) := by
    intro m
    induction m with
    | zero => intro _; rfl
    | succ m ih =>
      intro hm
      rw [lcYs_succ, ih (by omega), h m (by omega), List.range_succ, List.filter_append]
      unfold natsV
      rw [List.map_append]
      congr 1
      cases hp : p m <;> simp [hp]
  exact key n (Nat.le_refl _)
theorem rep_zero (n : Nat) : (List.replicate n [V.int 0]).flatten = (List.replicate n (0 : Int)).map V.int := by
  induction n with
  | zero => rfl
  | succ n ih => rw [List.replicate_succ, List.flatten_cons, ih, List.replicate_succ, List.map_cons]; rfl
theorem inV_nats (i : Nat) : ∀ l : List Nat, inV (.int (i : Int)) (natsV l) = decide (i ∈ l)
  | [] => by simp [inV]
  | j :: l => by
    have ih := inV_nats i l
    unfold inV at ih ⊢
    simp only [natsV, List.map_cons, List.any_cons] at ih ⊢
    rw [ih]
    have e : eqV (V.int (j : Int)) (V.int (i : Int)) = decide (j = i) := by
      by_cases hj : j = i
      · subst hj; simp [eqV]
      · have : ¬ ((j : Int) = (i : Int)) := by omega
        simp [eqV, hj, this]
    rw [e]
    by_cases hj : j = i
    · subst hj; simp
    · have : ¬ i = j := fun z => hj z.symm
      simp [hj, this]
theorem flat_nats (l : List Nat) : (natsV l).all flatV = true := by
  rw [List.all_eq_true]
  intro x hx
  obtain ⟨i, _, rfl⟩ := List.mem_map.mp hx
  rfl
def natI (l : List Nat) : List Int := l.map fun i : Nat => (i : Int)
theorem natsV_eq (l : List Nat) : (natI l).map V.int = natsV l := by unfold natI; rw [List.map_map]; rfl
theorem natI_nil {l : List Nat} : natI l = [] ↔ l = [] := by unfold natI; exact List.map_eq_nil_iff
theorem nat_of_map {l : List Nat} {i : Nat} {y : V} (h : (natsV l)[i]? = some y) : ∃ c, l[i]? = some c ∧ y = V.int (c : Int) := by
  rw [List.getElem?_map] at h
  cases e : l[i]? with
  | none => rw [e] at h; cases h
  | some c => rw [e] at h; exact ⟨c, rfl, (Option.some.inj h).symm⟩
theorem int_at {ws : List Int} {c : Nat} (h : c < ws.length) : (ws.map V.int)[c]? = some (.int (wAt ws c)) := by
  rw [List.getElem?_map, List.getElem?_eq_getElem h]
  unfold wAt
  rw [List.getD_eq_getElem?_getD, List.getElem?_eq_getElem h]; rfl
def cAt (cs : List (Option Int)) (i : Nat) : Option Int := cs.getD i none
theorem opt_at {cs : List (Option Int)} {c : Nat} (h : c < cs.length) : (cs.map optI)[c]? = some (optI (cAt cs c)) := by
  rw [List.getElem?_map, List.getElem?_eq_getElem h]
  unfold cAt
  rw [List.getD_eq_getElem?_getD, List.getElem?_eq_getElem h]; rfl
theorem wAt_mem {ws : List Int} {i : Nat} (h : i < ws.length) : wAt ws i ∈ ws := by
  unfold wAt
  rw [List.getD_eq_getElem?_getD, List.getElem?_eq_getElem h]
  exact List.getElem_mem h
theorem cAt_mem {cs : List (Option Int)} {i : Nat} {z : Int} (h : cAt cs i = some z) : some z ∈ cs := by
  unfold cAt at h
  rw [List.getD_eq_getElem?_getD] at h
  cases e : cs[i]? with
  | none => rw [e] at h; cases h
  | some c => rw [e] at h; have : c = some z := h; rw [← this]; exact List.mem_of_getElem? e
/-- a level as it stands -/
def LvAt (H : Hp) (lv : Option (Int × Int)) (v : V) : Prop := match lv with
  | none => v = .non
  | some (t, b) => ∃ r, v = .ref r ∧ H r = some (.tup [.int t, .int b])
theorem filter_not_mem {p q : Nat → Bool} {l : List Nat} : ((l.filter p).filter fun i => !decide (i ∈ (l.filter p).filter q)) = l.filter fun i => p i && !q i := by
  rw [filter_and]
  refine List.filter_congr fun i hi => ?_
  cases hp : p i with
  | false => rfl
  | true =>
    have : decide (i ∈ (l.filter p).filter q) = q i := by
      cases hq : q i with
      | true => exact decide_eq_true (List.mem_filter.mpr ⟨List.mem_filter.mpr ⟨hi, hp⟩, hq⟩)
      | false => exact decide_eq_false fun hm => by have := (List.mem_filter.mp hm).2; rw [hq] at this; cases this
    rw [this]
theorem filter_lt {α : Type} {q : α → Bool} {l : List α} {j : α} (h : j ∈ l) (hq : q j = false) : (l.filter q).length < l.length := by
  have h1 := List.length_filter_le q l
  have h2 : (l.filter q).length ≠ l.length := fun e => by
    have := (List.length_filter_eq_length_iff.mp e) j h
    rw [hq] at this; cases this
  omega
theorem putAll_take {ps : List (Nat × Int)} {i : Nat} {q : Nat × Int} (h : ps[i]? = some q) (f : List Int) : putAll f (ps.take (i + 1)) = (putAll f (ps.take i)).set q.1 q.2 := by
  unfold putAll
  rw [List.take_add_one, h]
  show List.foldl _ f (ps.take i ++ [q]) = _
  rw [List.foldl_append]
  rfl
theorem ixN_nat {n i : Nat} (h : i < n) : ixN n (i : Int) = some i := by
  unfold ixN
  rw [if_pos (by omega), if_pos (by omega)]
  simp
theorem map_set {α β : Type} (f : α → β) (l : List α) (i : Nat) (x : α) : (l.map f).set i (f x) = (l.set i x).map f := (List.map_set).symm
end My

/-! ### texts as lists of signs: parts, words, the longest, the wish -/
namespace My
open PySem L2
abbrev sO (l : List Nat) : Str := ⟨l.toArray⟩
theorem sO_tl (x : Str) : sO x.cps.toList = x := by
  cases x
  simp [sO]
/-- cut at each c -/
def cut (c : Nat) : List Nat → List (List Nat)
  | [] => [[]]
  | d :: r => if d = c then [] :: cut c r else match cut c r with
    | p :: ps => (d :: p) :: ps
    | [] => [[d]]
theorem cut_ne (c : Nat) : ∀ l, ∃ p ps, cut c l = p :: ps
  | [] => ⟨[], [], rfl⟩
  | d :: r => by
    obtain ⟨p, ps, e⟩ := cut_ne c r
    unfold cut
    by_cases h : d = c
    · rw [if_pos h]; exact ⟨_, _, rfl⟩
    · rw [if_neg h, e]; exact ⟨_, _, rfl⟩
theorem cut_hit {c : Nat} {r : List Nat} : cut c (c :: r) = [] :: cut c r := by
  conv => lhs; unfold cut
  rw [if_pos rfl]
theorem cut_miss {c d : Nat} {r p : List Nat} {ps : List (List Nat)} (h : d ≠ c) (e : cut c r = p :: ps) : cut c (d :: r) = (d :: p) :: ps := by
  conv => lhs; unfold cut
  rw [if_neg h, e]
theorem cut_len (c : Nat) : ∀ l : List Nat, (cut c l).length ≤ l.length + 1
  | [] => Nat.le_refl _
  | d :: r => by
    have ih := cut_len c r
    obtain ⟨p, ps, e⟩ := cut_ne c r
    by_cases h : d = c
    · subst h
      rw [cut_hit, List.length_cons, List.length_cons]; omega
    · rw [cut_miss h e, List.length_cons]
      rw [e, List.length_cons] at ih
      rw [List.length_cons]; omega
theorem spl_cut (c : Nat) : ∀ (l acc : List Nat), ∀ p ps, cut c l = p :: ps → TL.spl [c] 0 acc l = (acc ++ p) :: ps
  | [], acc, p, ps, e => by
    cases e
    rw [TL.spl_nil, List.append_nil]
  | d :: r, acc, p, ps, e => by
    obtain ⟨p', ps', e'⟩ := cut_ne c r
    by_cases h : d = c
    · subst h
      rw [cut_hit] at e
      cases e
      rw [TL.spl_hit (by simp [TL.pre]), List.append_nil]
      show acc :: TL.spl [d] 0 [] r = _
      rw [spl_cut d r [] p' ps' e', e', List.nil_append]
    · rw [cut_miss h e'] at e
      cases e
      rw [TL.spl_miss (by simp [TL.pre, h]), spl_cut c r _ p' ps e', List.append_assoc]; rfl
theorem split_cut {c : Nat} (hc : c < 256) (l : List Nat) : Txt.split (sO l) ⟨#[c]⟩ = (cut c l).map sO := by
  have := SX.split_S (a := l) (b := [c]) (by simp) (by simp [hc])
  obtain ⟨p, ps, e⟩ := cut_ne c l
  rw [spl_cut c l [] p ps e, List.nil_append, ← e] at this
  exact this
theorem join_sO (a : List Nat) (ys : List (List Nat)) : Txt.join (sO a) (ys.map sO) = sO (TL.joinL a ys) := SX.join_S a ys
theorem cut_append (c : Nat) (b : List Nat) : ∀ a : List Nat, cut c (a ++ c :: b) = cut c a ++ cut c b
  | [] => by rw [List.nil_append, cut_hit]; rfl
  | d :: r => by
    have ih := cut_append c b r
    obtain ⟨p, ps, e⟩ := cut_ne c r
    by_cases h : d = c
    · subst h
      rw [List.cons_append, cut_hit, cut_hit, ih]; rfl
    · rw [List.cons_append, cut_miss h e, cut_miss h (p := p) (ps := ps ++ cut c b) (by rw [ih, e]; rfl)]; rfl
/-- the words of a part -/
def wordsL (l : List Nat) : List (List Nat) := (cut 32 l).filter (!·.isEmpty)
def maxN : List Nat → Nat
  | [] => 0
  | a :: l => max a (maxN l)
theorem maxN_append : ∀ a b : List Nat, maxN (a ++ b) = max (maxN a) (maxN b)
  | [], b => by simp [maxN]
  | x :: a, b => by
    show max x (maxN (a ++ b)) = max (max x (maxN a)) (maxN b)
    rw [maxN_append a b]; omega
theorem foldl_maxN : ∀ (l : List Nat) (n : Nat), (l.map Int.ofNat).foldl max (n : Int) = ((max n (maxN l) : Nat) : Int)
  | [], n => by simp [maxN]
  | a :: l, n => by
    show (l.map Int.ofNat).foldl max (max (n : Int) (a : Int)) = _
    rw [show max (n : Int) (a : Int) = ((max n a : Nat) : Int) by omega, foldl_maxN l]
    show _ = ((max n (max a (maxN l)) : Nat) : Int)
    omega
/-! the longest -/
def longL (x : List Nat) : Nat := maxN (((cut 10 x).flatMap wordsL).map List.length)
/-- sign by sign: the run, the most -/
def lgM : Nat → Nat → List Nat → Nat
  | _, m, [] => m
  | r, m, c :: t => let r' := if c = 32 ∨ c = 10 then 0 else r + 1
    lgM r' (max m r') t
theorem lgM_max : ∀ (t : List Nat) (r m : Nat), lgM r m t = max m (lgM r 0 t)
  | [], r, m => by simp [lgM]
  | c :: t, r, m => by
    show lgM _ (max m _) t = max m (lgM _ (max 0 _) t)
    rw [lgM_max t _ (max m _), lgM_max t _ (max 0 _)]; omega
/-- the longest of a part's words, its first word begun with r signs -/
def lgP (r : Nat) (x : List Nat) : Nat := match cut 32 x with
  | [] => 0
  | h :: ts => max (r + h.length) (maxN (ts.map List.length))
theorem maxN_filter : ∀ l : List (List Nat), maxN ((l.filter (!·.isEmpty)).map List.length) = maxN (l.map List.length)
  | [] => rfl
  | [] :: l => by
    show maxN ((l.filter _).map _) = max 0 (maxN (l.map List.length))
    rw [maxN_filter l]; omega
  | (a :: p) :: l => by
    show max _ (maxN ((l.filter _).map _)) = max _ _
    rw [maxN_filter l]
theorem lgP_words (x : List Nat) : lgP 0 x = maxN ((wordsL x).map List.length) := by
  unfold wordsL
  rw [maxN_filter]
  unfold lgP
  obtain ⟨p, ps, e⟩ := cut_ne 32 x
  rw [e]
  show max (0 + p.length) _ = max p.length _
  rw [Nat.zero_add]
theorem lgP_nil (r : Nat) : lgP r [] = r := by
  show max (r + 0) 0 = r
  omega
theorem lgP_blank (r : Nat) (t : List Nat) : lgP r (32 :: t) = max r (lgP 0 t) := by
  unfold lgP
  obtain ⟨p, ps, e⟩ := cut_ne 32 t
  rw [cut_hit, e]
  show max (r + 0) (max p.length _) = max r (max (0 + p.length) _)
  rw [Nat.zero_add, Nat.add_zero]
theorem lgP_sign {r c : Nat} {t : List Nat} (h : c ≠ 32) : lgP r (c :: t) = lgP (r + 1) t := by
  unfold lgP
  obtain ⟨p, ps, e⟩ := cut_ne 32 t
  rw [cut_miss h e, e]
  show max (r + (p.length + 1)) _ = max (r + 1 + p.length) _
  rw [show r + (p.length + 1) = r + 1 + p.length by omega]
theorem lgP_ge (r : Nat) (t : List Nat) : r ≤ lgP r t := by
  unfold lgP
  obtain ⟨p, ps, e⟩ := cut_ne 32 t
  rw [e]
  show r ≤ max (r + p.length) _
  omega
theorem lgM_cut : ∀ (x : List Nat) (r m : Nat), r ≤ m → ∀ p ps, cut 10 x = p :: ps → lgM r m x = max m (max (lgP r p) (maxN (ps.map (lgP 0))))
  | [], r, m, hr, p, ps, e => by
    cases e
    rw [lgP_nil]
    show m = max m (max r 0)
    omega
  | c :: t, r, m, hr, p, ps, e => by
    obtain ⟨p', ps', e'⟩ := cut_ne 10 t
    by_cases h : c = 10
    · subst h
      rw [cut_hit, e'] at e
      cases e
      show lgM 0 (max m 0) t = _
      rw [lgM_cut t 0 (max m 0) (Nat.zero_le _) p' ps' e', lgP_nil]
      show max (max m 0) (max (lgP 0 p') _) = max m (max r (max (lgP 0 p') _))
      omega
    · rw [cut_miss h e'] at e
      cases e
      by_cases hb : c = 32
      · subst hb
        show lgM 0 (max m 0) t = _
        rw [lgM_cut t 0 (max m 0) (Nat.zero_le _) p' ps e', lgP_blank]
        omega
      · show lgM (if c = 32 ∨ c = 10 then 0 else r + 1) (max m (if c = 32 ∨ c = 10 then 0 else r + 1)) t = _
        rw [if_neg (by simp [h, hb]), lgM_cut t (r + 1) (max m (r + 1)) (by omega) p' ps e', lgP_sign hb]
        have := lgP_ge (r + 1) p'
        omega
theorem maxN_flat : ∀ l : List (List Nat), maxN ((l.flatMap wordsL).map List.length) = maxN (l.map (lgP 0))
  | [] => rfl
  | x :: l => by
    rw [List.flatMap_cons, List.map_append, maxN_append, maxN_flat l, ← lgP_words]; rfl
theorem long_M (x : List Nat) : longL x = lgM 0 0 x := by
  unfold longL
  obtain ⟨p, ps, e⟩ := cut_ne 10 x
  rw [lgM_cut x 0 0 (Nat.le_refl _) p ps e, maxN_flat, e]
  show max (lgP 0 p) _ = max 0 (max (lgP 0 p) _)
  omega
/-! the wish -/
def joined (l : List Nat) : List Nat := TL.joinL [32] (wordsL l)
def wishL (x : List Nat) : Nat := maxN ((cut 10 x).map fun p => (joined p).length)
def worth (l w : Nat) : Nat := l + (w - 1)
/-- sign by sign: the letters, the words, whether a word's end is ahead, the most -/
def wsM : Nat → Nat → Bool → Nat → List Nat → Nat
  | _, _, _, m, [] => m
  | l, w, b, m, c :: t => if c = 10 then wsM 0 0 true (max m 0) t
    else if c = 32 then wsM l w true (max m (worth l w)) t
    else wsM (l + 1) (w + (if b then 1 else 0)) false (max m (worth (l + 1) (w + (if b then 1 else 0)))) t
def begs : Bool → List Nat → Nat
  | _, [] => 0
  | b, c :: t => if c = 32 then begs true t else (if b then 1 else 0) + begs false t
def lets (l : List Nat) : Nat := (l.filter (· ≠ 32)).length
theorem begs_cut : ∀ (t : List Nat) (p : List Nat) (ps : List (List Nat)), cut 32 t = p :: ps → begs false t = (ps.filter (!·.isEmpty)).length ∧ begs true t = ((p :: ps).filter (!·.isEmpty)).length
  | [], p, ps, e => by cases e; exact ⟨rfl, rfl⟩
  | c :: t, p, ps, e => by
    obtain ⟨p', ps', e'⟩ := cut_ne 32 t
    have ih := begs_cut t p' ps' e'
    by_cases h : c = 32
    · subst h
      rw [cut_hit, e'] at e
      cases e
      exact ⟨ih.2, ih.2⟩
    · rw [cut_miss h e'] at e
      cases e
      refine ⟨?_, ?_⟩
      · show (if c = 32 then begs true t else 0 + begs false t) = _
        rw [if_neg h, ih.1]; omega
      · show (if c = 32 then begs true t else 1 + begs false t) = _
        rw [if_neg h, ih.1]
        show 1 + _ = (List.filter _ ((c :: p') :: ps)).length
        rw [List.filter_cons_of_pos (by rfl), List.length_cons]; omega
theorem lets_cut : ∀ (t : List Nat), ((cut 32 t).map List.length).sum = lets t
  | [] => rfl
  | c :: t => by
    have ih := lets_cut t
    obtain ⟨p, ps, e⟩ := cut_ne 32 t
    by_cases h : c = 32
    · subst h
      rw [cut_hit, List.map_cons, List.sum_cons, ih]
      show 0 + lets t = lets (32 :: t)
      unfold lets
      rw [List.filter_cons_of_neg (by simp)]; omega
    · rw [cut_miss h e]
      rw [e] at ih
      show (p.length + 1) + (ps.map List.length).sum = _
      have ih : p.length + (ps.map List.length).sum = lets t := ih
      unfold lets
      rw [List.filter_cons_of_pos (by simp [h]), List.length_cons]
      unfold lets at ih
      omega
theorem sum_filter : ∀ l : List (List Nat), ((l.filter (!·.isEmpty)).map List.length).sum = (l.map List.length).sum
  | [] => rfl
  | [] :: l => by
    show ((l.filter _).map _).sum = 0 + (l.map List.length).sum
    rw [sum_filter l]; omega
  | (a :: p) :: l => by
    rw [List.filter_cons_of_pos (by rfl), List.map_cons, List.map_cons, List.sum_cons, List.sum_cons, sum_filter l]
theorem joinL_len (s : Nat) : ∀ l : List (List Nat), (TL.joinL [s] l).length = (l.map List.length).sum + (l.length - 1)
  | [] => rfl
  | [p] => by show p.length = (p.length + 0) + 0; omega
  | p :: q :: r => by
    have ih := joinL_len s (q :: r)
    show (p ++ ([s] ++ TL.joinL [s] (q :: r))).length = (p.length + ((q :: r).map List.length).sum) + ((q :: r).length + 1 - 1)
    rw [List.length_append, List.length_append, ih]
    show p.length + (1 + _) = _
    have : (q :: r).length = r.length + 1 := rfl
    omega
theorem joined_len (p : List Nat) : (joined p).length = worth (lets p) (begs true p) := by
  obtain ⟨h, ts, e⟩ := cut_ne 32 p
  unfold joined
  rw [joinL_len]
  unfold wordsL
  rw [sum_filter, lets_cut, (begs_cut p h ts e).2, e]; rfl
/-- a part's worth, from letters, words and what is ahead -/
def wsP (l w : Nat) (b : Bool) (p : List Nat) : Nat := worth (l + lets p) (w + begs b p)
theorem worth_mono {l l' w w' : Nat} (h1 : l ≤ l') (h2 : w ≤ w') : worth l w ≤ worth l' w' := by unfold worth; omega
theorem wsM_cut : ∀ (x : List Nat) (l w : Nat) (b : Bool) (m : Nat), worth l w ≤ m → ∀ p ps, cut 10 x = p :: ps → wsM l w b m x = max m (max (wsP l w b p) (maxN (ps.map fun p => wsP 0 0 true p)))
  | [], l, w, b, m, hm, p, ps, e => by
    cases e
    show m = max m (max (worth (l + 0) (w + 0)) 0)
    rw [Nat.add_zero, Nat.add_zero]; omega
  | c :: t, l, w, b, m, hm, p, ps, e => by
    obtain ⟨p', ps', e'⟩ := cut_ne 10 t
    by_cases h : c = 10
    · subst h
      rw [cut_hit, e'] at e
      cases e
      show wsM 0 0 true (max m 0) t = _
      rw [wsM_cut t 0 0 true (max m 0) (by unfold worth; omega) p' ps' e']
      show max (max m 0) (max (wsP 0 0 true p') _) = max m (max (worth (l + 0) (w + 0)) (max (wsP 0 0 true p') _))
      rw [Nat.add_zero, Nat.add_zero]; omega
    · rw [cut_miss h e'] at e
      cases e
      by_cases hb : c = 32
      · subst hb
        show wsM l w true (max m (worth l w)) t = _
        rw [wsM_cut t l w true _ (by omega) p' ps e']
        have e1 : wsP l w b (32 :: p') = wsP l w true p' := by
          unfold wsP lets
          rw [List.filter_cons_of_neg (by simp)]
          rfl
        rw [e1]; omega
      · show (if c = 10 then wsM 0 0 true (max m 0) t else if c = 32 then wsM l w true (max m (worth l w)) t else wsM (l + 1) (w + (if b then 1 else 0)) false (max m (worth (l + 1) (w + (if b then 1 else 0)))) t) = _
        rw [if_neg h, if_neg hb, wsM_cut t (l + 1) _ false _ (by omega) p' ps e']
        have e1 : wsP l w b (c :: p') = wsP (l + 1) (w + (if b then 1 else 0)) false p' := by
          unfold wsP lets
          rw [List.filter_cons_of_pos (by simp [hb]), List.length_cons]
          show worth _ (w + (if c = 32 then begs true p' else (if b then 1 else 0) + begs false p')) = _
          rw [if_neg hb, show l + ((p'.filter (· ≠ 32)).length + 1) = l + 1 + (p'.filter (· ≠ 32)).length by omega, Nat.add_assoc w]
        have e2 : worth (l + 1) (w + (if b then 1 else 0)) ≤ wsP (l + 1) (w + (if b then 1 else 0)) false p' := worth_mono (by omega) (by omega)
        rw [e1]; omega
theorem wish_M (x : List Nat) : wishL x = wsM 0 0 true 0 x := by
  obtain ⟨p, ps, e⟩ := cut_ne 10 x
  rw [wsM_cut x 0 0 true 0 (by unfold worth; omega) p ps e]
  have e1 : ∀ q, (joined q).length = wsP 0 0 true q := fun q => by
    rw [joined_len]; unfold wsP; rw [Nat.zero_add, Nat.zero_add]
  unfold wishL
  rw [e]
  show max (joined p).length (maxN (ps.map fun p => (joined p).length)) = _
  rw [e1 p, show (fun p => (joined p).length) = (fun p => wsP 0 0 true p) from funext e1]; omega
theorem long_append (a b : List Nat) : longL (a ++ 10 :: b) = max (longL a) (longL b) := by
  unfold longL
  rw [cut_append, List.flatMap_append, List.map_append, maxN_append]
theorem wish_append (a b : List Nat) : wishL (a ++ 10 :: b) = max (wishL a) (wishL b) := by
  unfold wishL
  rw [cut_append, List.map_append, maxN_append]
/-! more blanks -/
def rep2 : List Nat → List Nat
  | [] => []
  | c :: t => if c = 32 then 32 :: 32 :: rep2 t else c :: rep2 t
theorem rep2_cut : ∀ x : List Nat, TL.joinL [32, 32] (cut 32 x) = rep2 x
  | [] => rfl
  | c :: t => by
    have ih := rep2_cut t
    obtain ⟨p, ps, e⟩ := cut_ne 32 t
    by_cases h : c = 32
    · subst h
      rw [cut_hit]
      rw [e] at ih ⊢
      show [] ++ ([32, 32] ++ TL.joinL [32, 32] (p :: ps)) = 32 :: 32 :: rep2 t
      rw [ih]; rfl
    · rw [cut_miss h e]
      rw [e] at ih
      have e2 : rep2 (c :: t) = c :: rep2 t := by
        show (if c = 32 then _ else _) = _
        rw [if_neg h]
      rw [e2, ← ih]
      cases ps <;> rfl
theorem rep2_len : ∀ x : List Nat, (rep2 x).length ≤ 2 * x.length
  | [] => Nat.le_refl _
  | c :: t => by
    have ih := rep2_len t
    show (if c = 32 then 32 :: 32 :: rep2 t else c :: rep2 t).length ≤ 2 * (t.length + 1)
    split
    · rw [List.length_cons, List.length_cons]; omega
    · rw [List.length_cons]; omega
theorem lgM_rep : ∀ (x : List Nat) (r m : Nat), lgM r m (rep2 x ++ [32, 32]) = lgM r m x
  | [], r, m => by
    show max (max m 0) 0 = m
    omega
  | c :: t, r, m => by
    by_cases h : c = 32
    · subst h
      show lgM 0 (max (max m 0) 0) (rep2 t ++ [32, 32]) = lgM 0 (max m 0) t
      rw [show max (max m 0) 0 = max m 0 by omega]
      exact lgM_rep t 0 _
    · show lgM r m ((if c = 32 then 32 :: 32 :: rep2 t else c :: rep2 t) ++ [32, 32]) = _
      rw [if_neg h]
      exact lgM_rep t _ _
theorem wsM_rep : ∀ (x : List Nat) (l w : Nat) (b : Bool) (m : Nat), worth l w ≤ m → wsM l w b m (rep2 x ++ [32, 32]) = wsM l w b m x
  | [], l, w, b, m, hm => by
    show max (max m (worth l w)) (worth l w) = m
    omega
  | c :: t, l, w, b, m, hm => by
    by_cases h : c = 32
    · subst h
      show wsM l w true (max (max m (worth l w)) (worth l w)) (rep2 t ++ [32, 32]) = wsM l w true (max m (worth l w)) t
      rw [show max (max m (worth l w)) (worth l w) = max m (worth l w) by omega]
      exact wsM_rep t l w true _ (by omega)
    · show wsM l w b m ((if c = 32 then 32 :: 32 :: rep2 t else c :: rep2 t) ++ [32, 32]) = _
      rw [if_neg h]
      show (if c = 10 then wsM 0 0 true (max m 0) (rep2 t ++ [32, 32]) else if c = 32 then wsM l w true (max m (worth l w)) (rep2 t ++ [32, 32]) else wsM (l + 1) (w + (if b then 1 else 0)) false (max m (worth (l + 1) (w + (if b then 1 else 0)))) (rep2 t ++ [32, 32])) = (if c = 10 then wsM 0 0 true (max m 0) t else if c = 32 then wsM l w true (max m (worth l w)) t else wsM (l + 1) (w + (if b then 1 else 0)) false (max m (worth (l + 1) (w + (if b then 1 else 0)))) t)
      by_cases h10 : c = 10
      · rw [if_pos h10, if_pos h10]
        exact wsM_rep t 0 0 true _ (by unfold worth; omega)
      · rw [if_neg h10, if_neg h10, if_neg h, if_neg h]
        exact wsM_rep t _ _ false _ (by omega)
def wideL (x : List Nat) : List Nat := 32 :: (rep2 x ++ [32, 32])
theorem long_wide (x : List Nat) : longL (wideL x) = longL x := by
  rw [long_M, long_M]
  exact lgM_rep x 0 0
theorem wish_wide (x : List Nat) : wishL (wideL x) = wishL x := by
  rw [wish_M, wish_M]
  exact wsM_rep x 0 0 true 0 (by unfold worth; omega)
theorem replace_rep (x : List Nat) : Txt.replace (sO x) " " "  " = sO (rep2 x) := by
  have h := StrLaws.replace_one (sO x) "  " 32
  have e1 : (⟨#[32]⟩ : Str) = " " := by decide +kernel
  have e2 : ("  " : Str) = sO [32, 32] := by decide +kernel
  rw [split_cut (by decide), e2, ← TL.join_eq, join_sO, rep2_cut] at h
  rw [← e1, e2]
  exact h
theorem max_cast (a b : Nat) : (if (a : Int) > (b : Int) then (a : Int) else (b : Int)) = ((max b a : Nat) : Int) := by
  split <;> omega
theorem worth_cast (le wo : Nat) : ((le : Int) + if (wo : Int) - 1 > 0 then (wo : Int) - 1 else 0) = ((worth le wo : Nat) : Int) := by
  unfold worth
  split <;> omega
theorem lgM_end {r m c : Nat} {t : List Nat} (e : c = 32 ∨ c = 10) : lgM r m (c :: t) = lgM 0 (max m 0) t := by
  show lgM (if c = 32 ∨ c = 10 then 0 else r + 1) (max m (if c = 32 ∨ c = 10 then 0 else r + 1)) t = _
  rw [if_pos e]
theorem lgM_run {r m c : Nat} {t : List Nat} (e : ¬ (c = 32 ∨ c = 10)) : lgM r m (c :: t) = lgM (r + 1) (max m (r + 1)) t := by
  show lgM (if c = 32 ∨ c = 10 then 0 else r + 1) (max m (if c = 32 ∨ c = 10 then 0 else r + 1)) t = _
  rw [if_neg e]
theorem wsM_feed {l w m c : Nat} {b : Bool} {t : List Nat} (e : c = 10) : wsM l w b m (c :: t) = wsM 0 0 true (max m (worth 0 0)) t := by subst e; rfl
theorem wsM_blank {l w m c : Nat} {b : Bool} {t : List Nat} (e : ¬ c = 10) (e2 : c = 32) : wsM l w b m (c :: t) = wsM l w true (max m (worth l w)) t := by subst e2; rfl
theorem wsM_sign {l w m c : Nat} {b : Bool} {t : List Nat} (e : ¬ c = 10) (e2 : ¬ c = 32) : wsM l w b m (c :: t) = wsM (l + 1) (w + (if b then 1 else 0)) false (max m (worth (l + 1) (w + (if b then 1 else 0)))) t := by
  show (if c = 10 then _ else if c = 32 then _ else _) = _
  rw [if_neg e, if_neg e2]
theorem cut_sum (c : Nat) : ∀ l : List Nat, ((cut c l).map List.length).sum ≤ l.length
  | [] => Nat.le_refl _
  | d :: r => by
    have ih := cut_sum c r
    obtain ⟨p, ps, e⟩ := cut_ne c r
    by_cases h : d = c
    · subst h
      rw [cut_hit, List.map_cons, List.sum_cons, List.length_cons]
      show 0 + _ ≤ _
      omega
    · rw [cut_miss h e, List.map_cons, List.sum_cons, List.length_cons, List.length_cons]
      rw [e, List.map_cons, List.sum_cons] at ih
      omega
theorem mem_sum {l : List (List Nat)} {p : List Nat} (h : p ∈ l) : p.length ≤ (l.map List.length).sum := by
  induction l with
  | nil => cases h
  | cons a l ih =>
    rw [List.map_cons, List.sum_cons]
    rcases List.mem_cons.mp h with rfl | h
    · omega
    · have := ih h; omega
theorem words_sum (p : List Nat) : ((wordsL p).map List.length).sum ≤ p.length := by
  unfold wordsL
  rw [sum_filter]
  exact cut_sum 32 p
theorem words_pos {p w : List Nat} (h : w ∈ wordsL p) : 0 < w.length := by
  have := (List.mem_filter.mp h).2
  cases w with
  | nil => cases this
  | cons a w => exact Nat.succ_pos _
theorem count_sum : ∀ {l : List (List Nat)}, (∀ w ∈ l, 0 < w.length) → l.length ≤ (l.map List.length).sum
  | [], _ => Nat.le_refl _
  | w :: l, h => by
    have h1 := h w (List.mem_cons_self ..)
    have h2 := count_sum fun y hy => h y (List.mem_cons_of_mem _ hy)
    rw [List.map_cons, List.sum_cons, List.length_cons]; omega
theorem words_count (p : List Nat) : (wordsL p).length ≤ p.length := Nat.le_trans (count_sum fun _ h => words_pos h) (words_sum p)
theorem flat_count : ∀ l : List (List Nat), (l.flatMap wordsL).length ≤ (l.map List.length).sum
  | [] => Nat.le_refl _
  | p :: l => by
    rw [List.flatMap_cons, List.length_append, List.map_cons, List.sum_cons]
    have h1 := words_count p
    have h2 := flat_count l
    omega
theorem part_len {c : Nat} {l p : List Nat} (h : p ∈ cut c l) : p.length ≤ l.length := Nat.le_trans (mem_sum h) (cut_sum c l)
theorem flat_take (f : List Nat → List (List Nat)) (l : List (List Nat)) (i : Nat) : ((l.take i).flatMap f).length ≤ (l.flatMap f).length := by
  conv => rhs; rw [← List.take_append_drop i l]
  rw [List.flatMap_append, List.length_append]; omega
theorem maxN_ge : ∀ {l : List Nat} {k : Nat}, k ∈ l → k ≤ maxN l
  | a :: l, k, h => by
    show k ≤ max a (maxN l)
    rcases List.mem_cons.mp h with rfl | h
    · omega
    · have := maxN_ge h; omega
theorem maxN_le : ∀ {l : List Nat} {m : Nat}, (∀ k ∈ l, k ≤ m) → maxN l ≤ m
  | [], m, _ => Nat.zero_le _
  | a :: l, m, h => by
    show max a (maxN l) ≤ m
    have h1 := h a (List.mem_cons_self ..)
    have h2 := maxN_le fun k hk => h k (List.mem_cons_of_mem _ hk)
    omega
theorem maxN_of {l : List Nat} {m : Int} (h : m ∈ l.map Int.ofNat) (g : ∀ y ∈ l.map Int.ofNat, y ≤ m) : m = ((maxN l : Nat) : Int) := by
  obtain ⟨k, hk, rfl⟩ := List.mem_map.mp h
  have h1 := maxN_ge hk
  have h2 : maxN l ≤ k := maxN_le fun j hj => by
    have := g _ (List.mem_map.mpr ⟨j, hj, rfl⟩)
    exact Int.ofNat_le.mp this
  show ((k : Nat) : Int) = _
  omega
/-! the signs of words -/
def alphL : List Nat := (Str.ofString "!\"#$&'()*+,-./0123456789:;<=>?@ABCDEFGHIJKLMNOPQRSTUVWXYZ[\\]^_`abcdefghijklmnopqrstuvwxyz{}~").cps.toList
theorem alph_len : alphL.length = 92 := by decide +kernel
theorem alph_ok : ∀ c ∈ alphL, 33 ≤ c ∧ c < 127 := by decide +kernel
def signL (f s : Int) (k : Nat) : Nat := alphL.getD ((f + s * (k : Int)) % 92).toNat 33
theorem signL_at (f s : Int) (k : Nat) : atI alphL ((f + s * (k : Int)) % 92) = some (signL f s k) := by
  have h0 := Int.emod_nonneg (f + s * (k : Int)) (b := 92) (by decide)
  have h1 := Int.emod_lt_of_pos (f + s * (k : Int)) (b := 92) (by decide)
  unfold signL
  generalize (f + s * (k : Int)) % 92 = i at h0 h1
  obtain ⟨j, rfl⟩ := Int.eq_ofNat_of_zero_le h0
  have hj : j < alphL.length := by rw [alph_len]; omega
  unfold atI
  rw [ixN_nat hj, Int.toNat_natCast, List.getD_eq_getElem?_getD, List.getElem?_eq_getElem hj]
  exact List.getElem?_eq_getElem hj
theorem signL_ok (f s : Int) (k : Nat) : 33 ≤ signL f s k ∧ signL f s k < 127 := by
  have h := signL_at f s k
  unfold atI at h
  obtain ⟨j, _, hj⟩ := Option.bind_eq_some_iff.mp h
  exact alph_ok _ (List.mem_of_getElem? hj)
theorem joinL_signs : ∀ l : List Nat, TL.joinL [] (l.map fun c => [c]) = l
  | [] => rfl
  | [c] => rfl
  | c :: d :: l => by
    show [c] ++ ([] ++ TL.joinL [] ((d :: l).map fun c => [c])) = _
    rw [joinL_signs (d :: l)]; rfl
end My

/-! ### rules for texts -/
namespace My
open PySem PySem.Spec PyProof.Rows L2
section
variable {X : Cx}
/-- c * n -/
def rRepS : R2 := fun x y H Q => ∃ (c : Nat) (n : Nat), x = .str ⟨#[c]⟩ ∧ y = .int (n : Int) ∧ 1 ≤ n ∧ n ≤ 1000 ∧ Q (.str (sO (List.replicate n c))) H
theorem fold_rep (c : Nat) : ∀ (n : Nat) (acc : Array Nat), ((List.replicate n #[c]).foldl (· ++ ·) acc) = (acc.toList ++ List.replicate n c).toArray
  | 0, acc => by simp
  | n + 1, acc => by
    rw [List.replicate_succ, List.foldl_cons, fold_rep c n]
    simp [List.replicate_succ]
theorem op_repS : OpR X (binaryOp .Mult) rRepS := by
  intro pins s σ H x y v u Q I rx ry h
  obtain ⟨c, n, rfl, rfl, n1, n2, q⟩ := h
  obtain ⟨t, rfl⟩ := rx
  obtain ⟨t', rfl⟩ := ry
  refine P.mul_str ?_ (fun _ _ => ?_) (fun _ _ => ?_) ?_
  · rw [decide_eq_false (by omega), decide_eq_false (by omega)]; rfl
  · show ¬ (((#[c] : Array Nat).size : Int) > _)
    have h1 : (n : Int) ≤ 1000 := by omega
    have h2 : 1 ≤ (2 ^ 63 - 1 : Int) / (n : Int) := by
      apply Int.le_ediv_of_mul_le (by omega)
      omega
    show ¬ ((1 : Nat) : Int) > _
    omega
  · show PySem.Builtin.Str.tooLong (1 * (n : Int).toNat) = false
    unfold PySem.Builtin.Str.tooLong
    exact decide_eq_false (by rw [sizeLine_eq]; simp; omega)
  · rw [if_neg (by omega)]
    have e : (⟨(List.replicate (n : Int).toNat (⟨#[c]⟩ : Str).cps).foldl (· ++ ·) #[]⟩ : Str) = sO (List.replicate n c) := by
      rw [Int.toNat_natCast]
      show (⟨(List.replicate n #[c]).foldl (· ++ ·) #[]⟩ : Str) = _
      rw [fold_rep]; simp [sO]
    split
    · rename_i h
      have hn : n = 1 := by
        have : ((⟨#[c]⟩ : Str).length == 0) = false := rfl
        rw [this, Bool.or_false] at h
        have := eq_of_beq h
        omega
      subst hn
      exact ⟨.str (sO [c]), H, I, ⟨t, rfl⟩, q⟩
    · rw [e]
      refine ⟨?_, .str _, H, I.tok _, ⟨_, rfl⟩, q⟩
      show (List.replicate n c).toArray.size ≤ sizeLine
      rw [List.size_toArray, List.length_replicate, sizeLine_eq]; omega
/-- x.split(c): a new list of the parts -/
theorem mt_splitN : MtR X "str.split" (fun x xs H Q => ∃ (l : List Nat) (c : Nat), x = .str (sO l) ∧ xs = [.str ⟨#[c]⟩] ∧ c < 256 ∧ l.length + 2 ≤ sizeLine ∧ New H (.lst ((cut c l).map fun p => .str (sO p))) Q) := by
  intro pins s σ H x xs v us Q I rx rs h
  obtain ⟨l, c, rfl, rfl, hc, hl, q⟩ := h
  refine mt_split pins s σ H _ _ v us Q I rx rs ⟨sO l, ⟨#[c]⟩, rfl, rfl, rfl, hl, fun p hp => ?_⟩
  rw [split_cut hc, List.map_map]
  exact q.go p hp
theorem pe_splitN {o e : Expr} {to te : TE} {apos pos : Pos} (ho : PE X o to) (he : PE X e te) (hs : starEach [e] X.env = [(false, eval e X.env)] := by rfl) (hbase : attributeBase o "split" X.env (eval o X.env) = eval o X.env := by rfl) (hline : (apos.endLine == pos.line) = true := by rfl) :
    PE X (.Call (.Attribute o "split" apos) [e] [] pos) (tM1 (fun x xs H Q => ∃ (l : List Nat) (c : Nat), x = .str (sO l) ∧ xs = [.str ⟨#[c]⟩] ∧ c < 256 ∧ l.length + 2 ≤ sizeLine ∧ New H (.lst ((cut c l).map fun p => .str (sO p))) Q) to te) :=
  pe_m1 PySem.F.slot_str_split PySem.F.type_str_split mt_splitN ho he hs hbase hline
/-- sep.join(list of texts) -/
theorem mt_joinN {K : PySem.W.Frag} (hK : X.K = K) : MtR X "str.join" (fun x xs H Q => ∃ (a : List Nat) (p : Addr) (ys : List (List Nat)), x = .str (sO a) ∧ xs = [.ref p] ∧ SqL K H p (ys.map fun y => V.str (sO y)) ∧ (ys.map List.length).sum + ys.length * a.length ≤ 16777216 ∧ Q (.str (sO (TL.joinL a ys))) H) := by
  intro pins s σ H x xs v us Q I rx rs h
  obtain ⟨a, p, ys, rfl, rfl, hp, hz, q⟩ := h
  subst hK
  refine mt_join pins s σ H _ _ v us Q I rx rs ⟨sO a, p, ys.map sO, rfl, rfl, .inl (by rw [List.map_map]; exact hp), ?_, ?_⟩
  · rw [List.map_map, List.length_map]; exact hz
  · rw [join_sO]; exact q
theorem pe_joinN {K : PySem.W.Frag} (hK : X.K = K) {o e : Expr} {to te : TE} {apos pos : Pos} (ho : PE X o to) (he : PE X e te) (hs : starEach [e] X.env = [(false, eval e X.env)] := by rfl) (hbase : attributeBase o "join" X.env (eval o X.env) = eval o X.env := by rfl) (hline : (apos.endLine == pos.line) = true := by rfl) :
    PE X (.Call (.Attribute o "join" apos) [e] [] pos) (tM1 (fun x xs H Q => ∃ (a : List Nat) (p : Addr) (ys : List (List Nat)), x = .str (sO a) ∧ xs = [.ref p] ∧ SqL K H p (ys.map fun y => V.str (sO y)) ∧ (ys.map List.length).sum + ys.length * a.length ≤ 16777216 ∧ Q (.str (sO (TL.joinL a ys))) H) to te) :=
  pe_m1 PySem.F.slot_str_join PySem.F.type_str_join (mt_joinN hK) ho he hs hbase hline
/-- 'c' op e where e wants a token -/
theorem pe_opT {op : Operator} {r : R2} {c : Str} {j : Nat} {p pos : Pos} {f : Expr} {tf : TE} (ho : OpR X (binaryOp op) r) (hb : PET X f tf) : PE X (.BinOp (.Constant (.str c) j p) op f pos) (tOp r (tC (.str c)) tf) := by
  refine ⟨fun pins s σ H Q I h => ?_⟩
  refine wpAny_BinOp (PySem.Calls.Constant_str ?_)
  exact thn (hb pins _ σ H _ (Nat.succ_le_succ (Nat.zero_le _)) (I.tok _) h) fun u s2 ⟨y, H2, I2, r2, q2⟩ => ho pins s2 σ H2 (.str c) y _ u Q I2 ⟨_, rfl⟩ r2 q2
end
/-! #### walks -/
theorem it_list {K : PySem.W.Frag} {a : Addr} {xs : List V} {Qd : Hp → Prop} {Body : (Hp → Prop) → V → Hp → Prop} {H0 : Hp} (Pv : Nat → Hp → Prop) (h0 : Pv 0 H0) (hl : ∀ i H, i ≤ xs.length → Pv i H → SqL K H a xs)
    (hs : ∀ i x H, xs[i]? = some x → Pv i H → Body (Pv (i + 1)) x H) (hd : ∀ H, Pv xs.length H → Qd H) :
    ∃ W : Nat → Nat → Hp → Prop, (∃ m, W 0 m H0) ∧ ∀ i m H, W i m H →
      ((Itl K a).stop i H ∧ Qd H) ∨ ((Itl K a).go i H ∧ ∃ Nx : Hp → Prop, (∀ H', Nx H' → ∃ m', m' < m ∧ W (i + 1) m' H') ∧ ∀ x H', (Itl K a).yld i H x H' → Body Nx x H') := by
  refine ⟨fun i m H => m = xs.length - i ∧ i ≤ xs.length ∧ Pv i H, ⟨xs.length, by simp, Nat.zero_le _, h0⟩, ?_⟩
  rintro i m H ⟨rfl, hi, p⟩
  have q := hl i H hi p
  by_cases hlt : i < xs.length
  · refine .inr ⟨⟨xs, xs[i], q, by simp [hlt]⟩, Pv (i + 1), fun H' p' => ⟨xs.length - (i + 1), by omega, rfl, hlt, p'⟩, fun x H' y => ?_⟩
    obtain ⟨e, y⟩ := y
    subst e
    exact hs i x _ (y xs q) p
  · have e : i = xs.length := by omega
    subst e
    exact .inl ⟨⟨xs, q, Nat.le_refl _⟩, hd H p⟩
/-- for c in a text -/
theorem for_str {l : List Nat} {g : TG} {tb : TS} {D : Ends} {σ : L2.St} {H : Hp} (Pv : Nat → L2.St → Hp → Prop) (h0 : Pv 0 σ H)
    (hs : ∀ i c σ H, l[i]? = some c → Pv i σ H → g (.str ⟨#[c]⟩) σ H fun σ2 H2 => tb { D with nx := Pv (i + 1), ct := Pv (i + 1), bk := D.nx } σ2 H2) (hd : ∀ σ H, Pv l.length σ H → D.nx σ H) :
    ∃ W : Nat → Nat → L2.St → Hp → Prop, (∃ m, W 0 m σ H) ∧ ∀ i m σ H, W i m σ H →
      ((Its (sO l)).stop i H ∧ D.nx σ H) ∨ ((Its (sO l)).go i H ∧ ∃ N : L2.St → Hp → Prop, (∀ σ' H', N σ' H' → ∃ m', m' < m ∧ W (i + 1) m' σ' H') ∧ ∀ x H', (Its (sO l)).yld i H x H' → g x σ H' fun σ2 H2 => tb { D with nx := N, ct := N, bk := D.nx } σ2 H2) := by
  refine ⟨fun i m σ H => m = l.length - i ∧ i ≤ l.length ∧ Pv i σ H, ⟨l.length, by simp, Nat.zero_le _, h0⟩, ?_⟩
  rintro i m σ H ⟨rfl, hi, p⟩
  by_cases hlt : i < l.length
  · refine .inr ⟨?_, Pv (i + 1), fun σ' H' p' => ⟨l.length - (i + 1), by omega, rfl, hlt, p'⟩, fun x H' y => ?_⟩
    · show i < l.toArray.size
      rw [List.size_toArray]; exact hlt
    · obtain ⟨rfl, c, hc, rfl⟩ := y
      have hc : l.toArray[i]? = some c := hc
      rw [List.getElem?_toArray] at hc
      exact hs i c σ _ hc p
  · have e : i = l.length := by omega
    subst e
    refine .inl ⟨?_, hd σ H p⟩
    show l.toArray.size ≤ l.length
    rw [List.size_toArray]; exact Nat.le_refl _
/-! #### written texts -/
theorem blank_eq : Str.ofString " " = ⟨#[32]⟩ := by decide +kernel
theorem feed_eq : Str.ofString "\n" = ⟨#[10]⟩ := by decide +kernel
theorem ends_eq : Str.ofString " \n" = sO [32, 10] := by decide +kernel
theorem empty_eq : Str.ofString "" = sO [] := by decide +kernel
theorem str_inj_dec {l m : List Nat} : decide (V.str (sO l) = V.str (sO m)) = decide (l = m) := decide_eq_decide.mpr ⟨fun e => by
  have := congrArg (fun v => match v with | V.str x => x.cps.toList | _ => []) e
  simpa [sO] using this, fun e => by rw [e]⟩
theorem empty_dec {l : List Nat} : decide (V.str (sO l) = V.str (Str.ofString "")) = l.isEmpty := by
  rw [empty_eq, str_inj_dec]
  cases l <;> rfl
theorem sign_dec {c d : Nat} : decide (V.str ⟨#[c]⟩ = V.str ⟨#[d]⟩) = decide (c = d) := by
  have := str_inj_dec (l := [c]) (m := [d])
  rw [show (V.str ⟨#[c]⟩) = V.str (sO [c]) from rfl, show (V.str ⟨#[d]⟩) = V.str (sO [d]) from rfl, this]
  exact decide_eq_decide.mpr ⟨fun e => by cases e; rfl, fun e => by rw [e]⟩
theorem feed_dec {c : Nat} : decide (V.str ⟨#[c]⟩ = V.str (Str.ofString "\n")) = decide (c = 10) := by rw [feed_eq, sign_dec]
theorem blank_dec {c : Nat} : decide (V.str ⟨#[c]⟩ = V.str (Str.ofString " ")) = decide (c = 32) := by rw [blank_eq, sign_dec]
theorem ends_dec {c : Nat} : decide (c ∈ (Str.ofString " \n").cps.toList) = decide (c = 32 ∨ c = 10) := by
  rw [ends_eq]
  exact decide_eq_decide.mpr (by simp [sO])
theorem sO_append (a b : List Nat) : sO a ++ sO b = sO (a ++ b) := by
  show (⟨a.toArray ++ b.toArray⟩ : Str) = ⟨(a ++ b).toArray⟩
  simp
theorem sO_len (l : List Nat) : (sO l).length = l.length := by
  show l.toArray.size = _
  rw [List.size_toArray]
theorem cutS_take (l : List Nat) (m : Nat) : cutS (sO l) none (some (m : Int)) = sO (l.take m) := by
  unfold cutS
  rw [HT.sIx_none, HT.sIx_nat, Nat.sub_zero, List.drop_zero, sO_len]
  show sO (l.take (min m l.length)) = _
  by_cases h : m ≤ l.length
  · rw [Nat.min_eq_left h]
  · rw [Nat.min_eq_right (by omega), List.take_of_length_le (Nat.le_refl _), List.take_of_length_le (by omega)]
end My

/-! ### max(xs, default = d) of ints -/
namespace My
open PySem PySem.Spec PyProof.Rows L2
def maxDef (d : Int) : List Int → Int
  | [] => d
  | n :: ns => ns.foldl max n
def rMaxDef (K : PySem.W.Frag) : List V → List V → Hp → VK → Prop := fun vs zs H Q => ∃ (a : Addr) (ns : List Int) (d : Int), vs = [.ref a] ∧ zs = [.int d] ∧ SqL K H a (ns.map V.int) ∧ Q (.int (maxDef d ns)) H
theorem reads_ints {h : Heap} : ∀ {ns : List Int} {us : List Value}, Vals (ns.map V.int) us → ∃ as, ReadsAll h us (ns.map .int) as
  | [], _, .nil => ⟨_, .nil⟩
  | n :: ns, _, .cons r t => by
    obtain ⟨k, rfl⟩ := r
    obtain ⟨as, ha⟩ := reads_ints (h := h) t
    exact ⟨_, .cons (.int n k) ha⟩
theorem cr_maxDef {X : Cx} (hc : X.calm = true) (hu : X.A.units + 64 < cLine) : CallRK X (.builtin "max") [Str.ofString "default"] (rMaxDef X.K) := by
  intro pins s σ H vs zs us ws Q I r rz h
  obtain ⟨a, ns, d, rfl, rfl, hs, q⟩ := h
  obtain rfl := Vals.ref1 r
  obtain ⟨w1, rfl, e1⟩ := vals1 rz
  obtain ⟨tk, rfl⟩ := e1
  obtain ⟨its, rv, hl, hz⟩ := I.list hs
  obtain ⟨as, hr⟩ := reads_ints (h := s.heap) rv
  have hd : PyData.depthAll (ns.map PyData.int) ≤ 1 := depthAll_map (g := PyData.int) (m := 1) (fun x => by simp [PyData.depth]) ns
  refine PySem.W.max_list_default (I.ok.hd hc) hl.isList (by simpa using hr) ?_ (by omega) (fun e h' tk2 hk => ?_) (fun y ys i v h' tk2 bs e hv hrd hk => ?_)
  · refine ⟨fun x hx y hy => ?_, fun x hx => ?_⟩
    · obtain ⟨n, _, rfl⟩ := List.mem_map.mp hx
      obtain ⟨m, _, rfl⟩ := List.mem_map.mp hy
      rfl
    · obtain ⟨n, _, rfl⟩ := List.mem_map.mp hx
      intro z; cases z
  · cases ns with
    | nil => exact ⟨.int d, H, I.kept hk, ⟨tk, rfl⟩, q⟩
    | cons n ns => cases e
  · cases ns with
    | nil => cases e
    | cons n ns =>
      cases e
      rw [PySem.W.maxD_ints] at hrd
      obtain ⟨t, rfl, _⟩ := reads_int_inv hrd
      exact ⟨.int _, H, I.kept hk, ⟨t, rfl⟩, q⟩
theorem cr_maxDefK {X : Cx} {K : PySem.W.Frag} (hc : X.calm = true) (hu : X.A.units + 64 < cLine) (h : X.K = K) : CallRK X (.builtin "max") [Str.ofString "default"] (rMaxDef K) := by subst h; exact cr_maxDef hc hu
theorem maxDef_N (l : List Nat) : maxDef 0 (l.map Int.ofNat) = ((maxN l : Nat) : Int) := by
  cases l with
  | nil => rfl
  | cons a l =>
    show (l.map Int.ofNat).foldl max (a : Int) = _
    rw [foldl_maxN]; rfl
end My

/-! ### lines of a part, of a text, at a width -/
namespace My
open PySem L2
abbrev jn (g : List (List Nat)) : List Nat := TL.joinL [32] g
theorem jn_snoc : ∀ (g : List (List Nat)) (x : List Nat), g ≠ [] → jn (g ++ [x]) = jn g ++ 32 :: x
  | [], _, h => absurd rfl h
  | [a], x, _ => rfl
  | a :: b :: g, x, _ => by
    have ih := jn_snoc (b :: g) x (by simp)
    show a ++ ([32] ++ jn (b :: g ++ [x])) = (a ++ ([32] ++ jn (b :: g))) ++ 32 :: x
    rw [ih]; simp
theorem jn_ne {g : List (List Nat)} (h : g ≠ []) (hw : ∀ w ∈ g, 0 < w.length) : jn g ≠ [] := by
  cases g with
  | nil => exact absurd rfl h
  | cons a g =>
    have ha := hw a (List.mem_cons_self ..)
    cases a with
    | nil => cases ha
    | cons c a => cases g <;> (intro e; cases e)
/-- the lines that come of a line begun and the words behind it -/
def lnsM (w : Nat) : List (List Nat) → List Nat → List (List Nat)
  | [], line => [line]
  | x :: ws, line => if line.isEmpty then lnsM w ws x else if line.length + 1 + x.length ≤ w then lnsM w ws (line ++ 32 :: x) else line :: lnsM w ws x
def linesL (w : Nat) (p : List Nat) : List (List Nat) := lnsM w (wordsL p) []
def wrapL (w : Nat) (x : List Nat) : List (List Nat) := (cut 10 x).flatMap (linesL w)
/-! #### by groups of words -/
/-- how many of the words stand behind a line of l signs -/
def moreN (w : Nat) : Nat → List (List Nat) → Nat
  | _, [] => 0
  | l, x :: ws => if l + 1 + x.length ≤ w then moreN w (l + 1 + x.length) ws + 1 else 0
/-- how many of the words stand in one line, one at least -/
def fitN (w : Nat) : List (List Nat) → Nat
  | [] => 0
  | x :: ws => moreN w x.length ws + 1
/-- the words, line by line -/
def grpM (w : Nat) : List (List Nat) → List (List Nat) → List (List (List Nat))
  | [], g => [g]
  | x :: ws, g => if (jn g).length + 1 + x.length ≤ w then grpM w ws (g ++ [x]) else g :: grpM w ws [x]
def brk (w : Nat) : List (List Nat) → List (List (List Nat))
  | [] => []
  | x :: ws => grpM w ws [x]
theorem lnsM_grp (w : Nat) : ∀ (ws g : List (List Nat)), (∀ x ∈ ws, 0 < x.length) → g ≠ [] → (∀ x ∈ g, 0 < x.length) → lnsM w ws (jn g) = (grpM w ws g).map jn
  | [], g, _, _, _ => rfl
  | x :: ws, g, hw, hg, hgw => by
    have hx := hw x (List.mem_cons_self ..)
    have hw' := fun y hy => hw y (List.mem_cons_of_mem x hy)
    have e1 : (jn g).isEmpty = false := by
      have := jn_ne hg hgw
      cases h : jn g with
      | nil => exact absurd h this
      | cons a b => rfl
    show (if (jn g).isEmpty = true then _ else _) = _
    rw [e1, if_neg (by decide)]
    show _ = (if (jn g).length + 1 + x.length ≤ w then grpM w ws (g ++ [x]) else g :: grpM w ws [x]).map jn
    by_cases h : (jn g).length + 1 + x.length ≤ w
    · rw [if_pos h, if_pos h, ← jn_snoc g x hg]
      refine lnsM_grp w ws _ hw' (by simp) fun y hy => ?_
      rcases List.mem_append.mp hy with h | h
      · exact hgw y h
      · rw [List.mem_singleton.mp h]; exact hx
    · rw [if_neg h, if_neg h, List.map_cons]
      have := lnsM_grp w ws [x] hw' (by simp) fun y hy => by rw [List.mem_singleton.mp hy]; exact hx
      rw [← this]; rfl
/-- the lines of a part: of its words, or one without signs -/
def lineG (w : Nat) (ws : List (List Nat)) : List (List Nat) := if ws.isEmpty then [[]] else (brk w ws).map jn
theorem lines_grp (w : Nat) (p : List Nat) : linesL w p = lineG w (wordsL p) := by
  unfold linesL lineG
  have hp : ∀ x ∈ wordsL p, 0 < x.length := fun x h => words_pos h
  generalize wordsL p = ws at hp
  cases ws with
  | nil => rfl
  | cons x ws =>
    have hx := hp x (List.mem_cons_self ..)
    show lnsM w ws x = (grpM w ws [x]).map jn
    rw [← lnsM_grp w ws [x] (fun y hy => hp y (List.mem_cons_of_mem _ hy)) (by simp) fun y hy => by rw [List.mem_singleton.mp hy]; exact hx]
    rfl
theorem grpM_more (w : Nat) : ∀ (ws g : List (List Nat)), g ≠ [] → grpM w ws g = (g ++ ws.take (moreN w (jn g).length ws)) :: brk w (ws.drop (moreN w (jn g).length ws))
  | [], g, _ => by show [g] = (g ++ []) :: []; rw [List.append_nil]
  | x :: ws, g, hg => by
    show (if (jn g).length + 1 + x.length ≤ w then grpM w ws (g ++ [x]) else g :: grpM w ws [x]) = (g ++ (x :: ws).take (if (jn g).length + 1 + x.length ≤ w then moreN w ((jn g).length + 1 + x.length) ws + 1 else 0)) :: brk w ((x :: ws).drop (if (jn g).length + 1 + x.length ≤ w then moreN w ((jn g).length + 1 + x.length) ws + 1 else 0))
    by_cases h : (jn g).length + 1 + x.length ≤ w
    · have e : (jn (g ++ [x])).length = (jn g).length + 1 + x.length := by
        rw [jn_snoc g x hg, List.length_append, List.length_cons]; omega
      rw [if_pos h, if_pos h, grpM_more w ws _ (by simp), e, List.take_succ_cons, List.drop_succ_cons, List.append_assoc]; rfl
    · rw [if_neg h, if_neg h, List.take_zero, List.drop_zero, List.append_nil]; rfl
theorem brk_cons (w : Nat) {ws : List (List Nat)} (h : ws ≠ []) : brk w ws = ws.take (fitN w ws) :: brk w (ws.drop (fitN w ws)) := by
  cases ws with
  | nil => exact absurd rfl h
  | cons x ws =>
    show grpM w ws [x] = _
    rw [grpM_more w ws [x] (by simp)]; rfl
theorem moreN_le (w : Nat) : ∀ (ws : List (List Nat)) (l : Nat), moreN w l ws ≤ ws.length
  | [], l => Nat.le_refl _
  | x :: ws, l => by
    show (if l + 1 + x.length ≤ w then moreN w (l + 1 + x.length) ws + 1 else 0) ≤ ws.length + 1
    have := moreN_le w ws (l + 1 + x.length)
    split <;> omega
theorem fitN_le (w : Nat) (ws : List (List Nat)) : fitN w ws ≤ ws.length := by
  cases ws with
  | nil => exact Nat.le_refl _
  | cons x ws => exact Nat.succ_le_succ (moreN_le w ws _)
theorem fitN_pos (w : Nat) {ws : List (List Nat)} (h : ws ≠ []) : 1 ≤ fitN w ws := by
  cases ws with
  | nil => exact absurd rfl h
  | cons x ws => exact Nat.succ_le_succ (Nat.zero_le _)
theorem take_ne {α : Type} {ws : List α} {m : Nat} (h1 : 1 ≤ m) (h : ws ≠ []) : ws.take m ≠ [] := by
  cases ws with
  | nil => exact absurd rfl h
  | cons a ws =>
    obtain ⟨k, rfl⟩ : ∃ k, m = k + 1 := ⟨m - 1, by omega⟩
    rw [List.take_succ_cons]; simp
/-- the loop: so many words stand, and so many more -/
theorem fit_step (w : Nat) {ws : List (List Nat)} {m : Nat} (h1 : 1 ≤ m) (hm : m < ws.length) : moreN w (jn (ws.take m)).length (ws.drop m) = if (jn (ws.take (m + 1))).length ≤ w then moreN w (jn (ws.take (m + 1))).length (ws.drop (m + 1)) + 1 else 0 := by
  have e1 : ws.drop m = ws[m] :: ws.drop (m + 1) := List.drop_eq_getElem_cons hm
  have e2 : ws.take (m + 1) = ws.take m ++ [ws[m]] := List.take_succ_eq_append_getElem hm
  have e3 : (jn (ws.take (m + 1))).length = (jn (ws.take m)).length + 1 + ws[m].length := by
    rw [e2, jn_snoc _ _ (take_ne h1 (by intro e; rw [e] at hm; cases hm)), List.length_append, List.length_cons]; omega
  rw [e1, e3]; rfl
theorem fit_one (w : Nat) {ws : List (List Nat)} (h : ws ≠ []) : fitN w ws = 1 + moreN w (jn (ws.take 1)).length (ws.drop 1) := by
  cases ws with
  | nil => exact absurd rfl h
  | cons x ws => show moreN w x.length ws + 1 = 1 + moreN w x.length ws; omega
theorem brk_flat (w : Nat) : ∀ (n : Nat) (ws : List (List Nat)), ws.length ≤ n → (brk w ws).flatten = ws
  | 0, ws, h => by
    have : ws = [] := List.length_eq_zero_iff.mp (by omega)
    subst this; rfl
  | n + 1, ws, h => by
    by_cases e : ws = []
    · subst e; rfl
    · have h1 := fitN_pos w e
      rw [brk_cons w e, List.flatten_cons, brk_flat w n _ (by rw [List.length_drop]; omega), List.take_append_drop]
theorem brk_words (w : Nat) (ws : List (List Nat)) : (brk w ws).flatten = ws := brk_flat w _ ws (Nat.le_refl _)
theorem brk_ne (w : Nat) : ∀ (n : Nat) (ws : List (List Nat)), ws.length ≤ n → ∀ g ∈ brk w ws, g ≠ []
  | 0, ws, h, g, hg => by
    have : ws = [] := List.length_eq_zero_iff.mp (by omega)
    subst this; cases hg
  | n + 1, ws, h, g, hg => by
    by_cases e : ws = []
    · subst e; cases hg
    · have h1 := fitN_pos w e
      rw [brk_cons w e] at hg
      rcases List.mem_cons.mp hg with rfl | hg
      · exact take_ne h1 e
      · exact brk_ne w n _ (by rw [List.length_drop]; omega) g hg
theorem brk_len (w : Nat) : ∀ (n : Nat) (ws : List (List Nat)), ws.length ≤ n → (brk w ws).length ≤ ws.length
  | 0, ws, h => by
    have : ws = [] := List.length_eq_zero_iff.mp (by omega)
    subst this; exact Nat.le_refl _
  | n + 1, ws, h => by
    by_cases e : ws = []
    · subst e; exact Nat.le_refl _
    · have h1 := fitN_pos w e
      have hl := List.length_pos_iff.mpr e
      have ih := brk_len w n (ws.drop (fitN w ws)) (by rw [List.length_drop]; omega)
      rw [brk_cons w e, List.length_cons]
      rw [List.length_drop] at ih
      have := fitN_le w ws
      omega
theorem lineG_len (w : Nat) (ws : List (List Nat)) : (lineG w ws).length ≤ ws.length + 1 := by
  unfold lineG
  split
  · exact Nat.succ_le_succ (Nat.zero_le _)
  · rw [List.length_map]
    have := brk_len w _ ws (Nat.le_refl _)
    omega
theorem linesL_len (w : Nat) (p : List Nat) : (linesL w p).length ≤ p.length + 1 := by
  rw [lines_grp]
  have := lineG_len w (wordsL p)
  have := words_count p
  omega
/-! #### the loop's bounds -/
theorem lnsM_len (w : Nat) : ∀ (ws : List (List Nat)) (line : List Nat), (lnsM w ws line).length ≤ ws.length + 1
  | [], _ => Nat.le_refl _
  | x :: ws, line => by
    show (if line.isEmpty = true then lnsM w ws x else if line.length + 1 + x.length ≤ w then lnsM w ws (line ++ 32 :: x) else line :: lnsM w ws x).length ≤ ws.length + 1 + 1
    split
    · have := lnsM_len w ws x; omega
    · split
      · have := lnsM_len w ws (line ++ 32 :: x); omega
      · have := lnsM_len w ws x
        rw [List.length_cons]; omega
theorem wrapL_len (w : Nat) (x : List Nat) : (wrapL w x).length ≤ 2 * x.length + 1 := by
  unfold wrapL
  have key : ∀ l : List (List Nat), (l.flatMap (linesL w)).length ≤ (l.map List.length).sum + l.length := by
    intro l
    induction l with
    | nil => exact Nat.le_refl _
    | cons p l ih =>
      rw [List.flatMap_cons, List.length_append, List.map_cons, List.sum_cons, List.length_cons]
      have := linesL_len w p
      omega
  have h1 := key (cut 10 x)
  have h2 := cut_sum 10 x
  have h3 := cut_len 10 x
  omega
/-! #### the words of each part, sign by sign -/
def wdsM : List (List Nat) → List Nat → List Nat → List (List (List Nat))
  | cur, _, [] => [cur]
  | cur, wd, c :: t => if c = 32 ∨ c = 10 then (if c = 10 then (if wd.isEmpty then cur else cur ++ [wd]) :: wdsM [] [] t else wdsM (if wd.isEmpty then cur else cur ++ [wd]) [] t) else wdsM cur (wd ++ [c]) t
def wordsF (wd p : List Nat) : List (List Nat) := (match cut 32 p with
  | [] => []
  | h :: ts => (wd ++ h) :: ts).filter (!·.isEmpty)
theorem wordsF_nil (p : List Nat) : wordsF [] p = wordsL p := by
  unfold wordsF wordsL
  obtain ⟨h, ts, e⟩ := cut_ne 32 p
  rw [e]; rfl
theorem wordsF_end (wd : List Nat) : wordsF wd [] = if wd.isEmpty then [] else [wd] := by
  show ([wd ++ []].filter (!·.isEmpty)) = _
  rw [List.append_nil]
  cases wd <;> rfl
theorem wordsF_blank (wd p : List Nat) : wordsF wd (32 :: p) = (if wd.isEmpty then [] else [wd]) ++ wordsL p := by
  unfold wordsF
  rw [cut_hit]
  show ((wd ++ []) :: cut 32 p).filter (!·.isEmpty) = _
  rw [List.append_nil]
  cases wd <;> rfl
theorem wordsF_sign {c : Nat} (wd p : List Nat) (h : c ≠ 32) : wordsF wd (c :: p) = wordsF (wd ++ [c]) p := by
  unfold wordsF
  obtain ⟨q, ts, e⟩ := cut_ne 32 p
  rw [cut_miss h e, e]
  simp
theorem wdsM_cut : ∀ (x : List Nat) (cur : List (List Nat)) (wd : List Nat) (p : List Nat) (ps : List (List Nat)), cut 10 x = p :: ps → wdsM cur wd (x ++ [10]) = (cur ++ wordsF wd p) :: (ps.map wordsL ++ [[]])
  | [], cur, wd, p, ps, e => by
    cases e
    rw [wordsF_end]
    show (if wd.isEmpty then cur else cur ++ [wd]) :: [[]] = _
    cases wd <;> simp
  | c :: t, cur, wd, p, ps, e => by
    obtain ⟨p', ps', e'⟩ := cut_ne 10 t
    by_cases h : c = 10
    · subst h
      rw [cut_hit, e'] at e
      cases e
      rw [wordsF_end]
      show (if wd.isEmpty then cur else cur ++ [wd]) :: wdsM [] [] (t ++ [10]) = _
      rw [wdsM_cut t [] [] p' ps' e', wordsF_nil]
      cases wd <;> simp
    · rw [cut_miss h e'] at e
      cases e
      by_cases hb : c = 32
      · subst hb
        show wdsM (if wd.isEmpty then cur else cur ++ [wd]) [] (t ++ [10]) = _
        rw [wdsM_cut t _ [] p' ps e', wordsF_nil, wordsF_blank]
        cases wd <;> simp
      · show (if c = 32 ∨ c = 10 then _ else wdsM cur (wd ++ [c]) (t ++ [10])) = _
        rw [if_neg (by simp [h, hb]), wdsM_cut t cur _ p' ps e', wordsF_sign _ _ hb]
theorem wdsM_all (x : List Nat) : wdsM [] [] (x ++ [10]) = (cut 10 x).map wordsL ++ [[]] := by
  obtain ⟨p, ps, e⟩ := cut_ne 10 x
  rw [wdsM_cut x [] [] p ps e, e, wordsF_nil]; rfl
theorem wdsM_feed {cur : List (List Nat)} {wd t : List Nat} : wdsM cur wd (10 :: t) = (if wd.isEmpty then cur else cur ++ [wd]) :: wdsM [] [] t := rfl
theorem wdsM_blank {cur : List (List Nat)} {wd t : List Nat} : wdsM cur wd (32 :: t) = wdsM (if wd.isEmpty then cur else cur ++ [wd]) [] t := rfl
theorem wdsM_sign {cur : List (List Nat)} {wd t : List Nat} {c : Nat} (h : ¬ (c = 32 ∨ c = 10)) : wdsM cur wd (c :: t) = wdsM cur (wd ++ [c]) t := by
  show (if c = 32 ∨ c = 10 then _ else _) = _
  rw [if_neg h]
/-- a list of words, of lists of words -/
abbrev txV (l : List Nat) : V := .str (sO l)
def WdsAt (H : Hp) (v : V) (ws : List (List Nat)) : Prop := ∃ a, v = .ref a ∧ H a = some (.lst (ws.map txV))
def PtsAt (H : Hp) (p : Addr) (ps : List (List (List Nat))) : Prop := ∃ vs : List V, H p = some (.lst vs) ∧ vs.length = ps.length ∧ ∀ (i : Nat) (v : V) (w : List (List Nat)), vs[i]? = some v → ps[i]? = some w → WdsAt H v w
theorem WdsAt.same {H H' : Hp} {v : V} {ws : List (List Nat)} (h : WdsAt H v ws) (s : Same H H') : WdsAt H' v ws := let ⟨a, e, g⟩ := h; ⟨a, e, s _ _ g⟩
theorem PtsAt.same {H H' : Hp} {p : Addr} {ps : List (List (List Nat))} (h : PtsAt H p ps) (s : Same H H') : PtsAt H' p ps := let ⟨vs, g, l, k⟩ := h; ⟨vs, s _ _ g, l, fun i v w a b => (k i v w a b).same s⟩
/-- .. that stand apart from the source -/
theorem WdsAt.dr {H H' : Hp} {a : Addr} {v : V} {ws : List (List Nat)} (h : WdsAt H v ws) (hs : Src H a) (d : Dr a H H') : WdsAt H' v ws := by
  obtain ⟨b, e, g⟩ := h
  refine ⟨b, e, d.app ?_ g⟩
  rintro rfl
  obtain ⟨s, hs⟩ := hs
  rw [g] at hs
  cases ws with
  | nil => cases hs
  | cons w ws => cases hs
theorem PtsAt.dr {H H' : Hp} {a p : Addr} {ps : List (List (List Nat))} (h : PtsAt H p ps) (hs : Src H a) (d : Dr a H H') : PtsAt H' p ps := by
  obtain ⟨vs, g, l, k⟩ := h
  refine ⟨vs, d.app ?_ g, l, fun i v w e1 e2 => (k i v w e1 e2).dr hs d⟩
  rintro rfl
  obtain ⟨s, hs⟩ := hs
  rw [g] at hs
  cases hs
  cases ps with
  | nil => cases l
  | cons w ps =>
    obtain ⟨b, e, _⟩ := k 0 _ w rfl rfl
    cases e
theorem take_sum (ws : List (List Nat)) (m : Nat) : ((ws.take m).map List.length).sum + (ws.take m).length ≤ (ws.map List.length).sum + ws.length := by
  conv => rhs; rw [← List.take_append_drop m ws]
  rw [List.map_append, List.sum_append, List.length_append]; omega
theorem jn_take_len (ws : List (List Nat)) (m : Nat) : (jn (ws.take m)).length ≤ (ws.map List.length).sum + ws.length := by
  have := take_sum ws m
  show (TL.joinL [32] (ws.take m)).length ≤ _
  rw [joinL_len]; omega
theorem PtsAt.pairs {H : Hp} {p : Addr} {ps : List (List (List Nat))} (h : PtsAt H p ps) : ∃ ys : List (V × List (List Nat)), H p = some (.lst (ys.map Prod.fst)) ∧ ys.map Prod.snd = ps ∧ ∀ y ∈ ys, WdsAt H y.1 y.2 := by
  obtain ⟨vs, g, l, k⟩ := h
  refine ⟨vs.zip ps, by rw [g, List.map_fst_zip (by omega)], List.map_snd_zip (by omega), fun y hy => ?_⟩
  obtain ⟨i, hi, e⟩ := List.getElem_of_mem hy
  rw [List.length_zip] at hi
  have e2 := List.getElem_zip (l := vs) (l' := ps) (i := i) (h := by rw [List.length_zip]; exact hi)
  rw [e] at e2
  rw [e2]
  exact k i _ _ (List.getElem?_eq_getElem (by omega)) (List.getElem?_eq_getElem (by omega))
theorem drop_sum (ws : List (List Nat)) (m : Nat) : ((ws.drop m).map List.length).sum + (ws.drop m).length ≤ (ws.map List.length).sum + ws.length := by
  conv => rhs; rw [← List.take_append_drop m ws]
  rw [List.map_append, List.sum_append, List.length_append]; omega
theorem max0_of {l : List Nat} {m : Int} (h : m ∈ (0 :: l).map Int.ofNat) (g : ∀ y ∈ (0 :: l).map Int.ofNat, y ≤ m) : m = ((maxN l : Nat) : Int) := by
  rw [maxN_of h g]
  show ((max 0 (maxN l) : Nat) : Int) = _
  rw [Nat.zero_max]
theorem lens_V (ws : List (List Nat)) : [V.int 0] ++ ws.map (fun y => V.int (y.length : Nat)) = ((0 :: ws.map List.length).map Int.ofNat).map V.int := by
  rw [List.map_cons, List.map_cons, List.map_map, List.map_map]; rfl
theorem lineG_pos (w : Nat) (ws : List (List Nat)) : 1 ≤ (lineG w ws).length := by
  unfold lineG
  split
  · exact Nat.le_refl _
  · rename_i h
    have h : ws ≠ [] := fun e => h (by rw [e]; rfl)
    rw [brk_cons w h, List.map_cons, List.length_cons]; exact Nat.succ_le_succ (Nat.zero_le _)
/-- the parts of a text, and its words -/
theorem parts_ok {l : List Nat} {m : Nat} (h : l.length ≤ m) : (cut 10 l).map wordsL ≠ [] ∧ ((cut 10 l).map wordsL).length ≤ m + 1 ∧ ∀ ws ∈ (cut 10 l).map wordsL, (ws.map List.length).sum + ws.length ≤ 2 * m := by
  obtain ⟨p, ps, e⟩ := cut_ne 10 l
  refine ⟨by rw [e]; simp, by rw [List.length_map]; have := cut_len 10 l; omega, fun ws hw => ?_⟩
  obtain ⟨p, hp, rfl⟩ := List.mem_map.mp hw
  have h1 := part_len hp
  have h2 := words_sum p
  have h3 := words_count p
  omega
theorem flat_at {α β : Type} (f : α → List β) {l : List α} {i : Nat} {y : α} (h : l[i]? = some y) : l.flatMap f = (l.take i).flatMap f ++ (f y ++ (l.drop (i + 1)).flatMap f) := by
  have hi := (List.getElem?_eq_some_iff.mp h).1
  conv => lhs; rw [← List.take_append_drop i l, List.flatMap_append, List.drop_eq_getElem_cons hi, List.flatMap_cons, (List.getElem?_eq_some_iff.mp h).2]
theorem flat_take_succ {α β : Type} (f : α → List β) {l : List α} {i : Nat} {y : α} (h : l[i]? = some y) : (l.take (i + 1)).flatMap f = (l.take i).flatMap f ++ f y := by
  rw [List.take_add_one, h, List.flatMap_append]; simp
theorem tx_ne {H : Hp} {a b : Addr} {ws : List (List Nat)} (h : H b = some (.lst (ws.map txV))) (hs : Src H a) : b ≠ a := by
  rintro rfl
  obtain ⟨s, hs⟩ := hs
  rw [h] at hs
  cases ws with
  | nil => cases hs
  | cons w ws => cases hs
end My

/-! ### == and != of lists of texts; a comprehension within one -/
namespace My
open PySem PySem.Spec PyProof.Rows L2
def rEqTx (K : PySem.W.Frag) : R2 := fun x y H Q => ∃ (a b : Addr) (xs ys : List (List Nat)), x = .ref a ∧ y = .ref b ∧ SqL K H a (xs.map txV) ∧ SqL K H b (ys.map txV) ∧ Q (.bl (decide (xs = ys))) H
def rNeTx (K : PySem.W.Frag) : R2 := fun x y H Q => ∃ (a b : Addr) (xs ys : List (List Nat)), x = .ref a ∧ y = .ref b ∧ SqL K H a (xs.map txV) ∧ SqL K H b (ys.map txV) ∧ Q (.bl (!decide (xs = ys))) H
theorem eqV_tx (a b : List Nat) : eqV (txV a) (txV b) = decide (a = b) := by
  show (sO a == sO b) = decide (a = b)
  rw [Bool.eq_iff_iff, beq_iff_eq, decide_eq_true_iff]
  exact ⟨fun h => by simpa [sO] using h, fun h => by rw [h]⟩
theorem tx_all {A : Around} {s : Shared} : ∀ {xs ys : List (List Nat)} {us ws : List Value}, Vals (xs.map txV) us → Vals (ys.map txV) ws → ∀ j (h1 : j < us.length) (h2 : j < ws.length), SeqAt.EqAt A s us[j] ws[j] (decide (xs[j]? = ys[j]?))
  | [], _, _, _, .nil, _, j, h1, _ => absurd h1 (Nat.not_lt_zero j)
  | _ :: _, [], _, _, .cons _ _, .nil, j, _, h2 => absurd h2 (Nat.not_lt_zero j)
  | x :: xs, y :: ys, _, _, .cons a1 b1, .cons a2 b2, 0, _, _ => by
    have := eqAt_V (A := A) (s := s) a1 a2 rfl rfl
    rw [eqV_tx] at this
    rw [show decide ((x :: xs)[0]? = (y :: ys)[0]?) = decide (x = y) from by
      rw [List.getElem?_cons_zero, List.getElem?_cons_zero]; exact decide_eq_decide.mpr ⟨fun e => Option.some.inj e, fun e => by rw [e]⟩]
    exact this
  | x :: xs, y :: ys, _, _, .cons a1 b1, .cons a2 b2, j + 1, h1, h2 => by
    have := tx_all (A := A) (s := s) b1 b2 j (Nat.lt_of_succ_lt_succ h1) (Nat.lt_of_succ_lt_succ h2)
    simpa using this
theorem all_dec {xs ys : List (List Nat)} (h : xs.length = ys.length) : ((List.range xs.length).all fun j => decide (xs[j]? = ys[j]?)) = decide (xs = ys) := by
  rw [Bool.eq_iff_iff, List.all_eq_true, decide_eq_true_iff]
  refine ⟨fun k => List.ext_getElem? fun j => ?_, fun e j _ => by rw [e]; exact decide_eq_true rfl⟩
  by_cases hj : j < xs.length
  · exact of_decide_eq_true (k j (List.mem_range.mpr hj))
  · rw [List.getElem?_eq_none (by omega), List.getElem?_eq_none (by omega)]
theorem op_eqTx {X : Cx} (hu : X.A.units + 64 < cLine) : OpR X (compareOp .Eq) (rEqTx X.K) := by
  intro pins s σ H x y v u Q I rx ry h
  obtain ⟨a, b, xs, ys, rfl, rfl, ha, hb, q⟩ := h
  cases (show v = Value.ref a from rx)
  cases (show u = Value.ref b from ry)
  obtain ⟨us, r1, p1, _⟩ := I.list ha
  obtain ⟨ws, r2, p2, _⟩ := I.list hb
  have l1 := r1.length
  have l2 := r2.length
  rw [List.length_map] at l1 l2
  by_cases hl : xs.length = ys.length
  · have hsz : us.toArray.size = ws.toArray.size := by
      rw [List.size_toArray, List.size_toArray]; omega
    have k := SeqAt.RcAt.lists (A := X.A) (e := fun j => decide (xs[j]? = ys[j]?)) p1.isList p2.isList hsz (show X.A.units < cLine by omega) (fun j h1 h2 => by
      have := tx_all (A := X.A.in1) (s := s) r1 r2 j (by simpa using h1) (by simpa using h2)
      simpa using this)
    rw [List.size_toArray, show us.length = xs.length from by omega, all_dec hl] at k
    exact k _ _ _ _ ⟨.bl _, H, I, rfl, q⟩
  · have k := SeqAt.RcAt.lists_lengths (A := X.A) p1.isList p2.isList (show (us.toArray.size != ws.toArray.size) = true by simp; omega) (show X.A.units < cLine by omega)
    rw [decide_eq_false (fun e => hl (by rw [e]))] at q
    exact k _ _ _ _ ⟨.bl false, H, I, rfl, q⟩
theorem op_neTx {X : Cx} (hu : X.A.units + 64 < cLine) : OpR X (compareOp .NotEq) (rNeTx X.K) := by
  intro pins s σ H x y v u Q I rx ry h
  obtain ⟨a, b, xs, ys, rfl, rfl, ha, hb, q⟩ := h
  cases (show v = Value.ref a from rx)
  cases (show u = Value.ref b from ry)
  obtain ⟨us, r1, p1, _⟩ := I.list ha
  obtain ⟨ws, r2, p2, _⟩ := I.list hb
  have l1 := r1.length
  have l2 := r2.length
  rw [List.length_map] at l1 l2
  by_cases hl : xs.length = ys.length
  · have hsz : us.toArray.size = ws.toArray.size := by
      rw [List.size_toArray, List.size_toArray]; omega
    have k := SeqAt.RcNeAt.lists (A := X.A) (e := fun j => decide (xs[j]? = ys[j]?)) p1.isList p2.isList hsz (show X.A.units < cLine by omega) (fun j h1 h2 => by
      have := tx_all (A := X.A.in1) (s := s) r1 r2 j (by simpa using h1) (by simpa using h2)
      simpa using this)
    rw [List.size_toArray, show us.length = xs.length from by omega, all_dec hl] at k
    exact k _ _ _ _ ⟨.bl _, H, I, rfl, q⟩
  · have k := SeqAt.RcNeAt.lists_lengths (A := X.A) p1.isList p2.isList (show (us.toArray.size != ws.toArray.size) = true by simp; omega) (show X.A.units < cLine by omega)
    rw [decide_eq_false (fun e => hl (by rw [e]))] at q
    exact k _ _ _ _ ⟨.bl true, H, I, rfl, q⟩
theorem op_eqTxK {X : Cx} {K : PySem.W.Frag} (hu : X.A.units + 64 < cLine) (h : X.K = K) : OpR X (compareOp .Eq) (rEqTx K) := by subst h; exact op_eqTx hu
theorem op_neTxK {X : Cx} {K : PySem.W.Frag} (hu : X.A.units + 64 < cLine) (h : X.K = K) : OpR X (compareOp .NotEq) (rNeTx K) := by subst h; exact op_neTx hu
/-- a block within a block: its scope hands nothing on -/
theorem blkOk_any {N : List Str} {sc scope : Scope} {own : List (Str × Nat)} (h : blkC N { kind := .function, names := [], isGenerator := false, isCoroutine := false } scope own = true) : BlkOk N sc scope own := by
  have b := blkOk_by h
  exact ⟨b.kind, b.uniq, b.ix, fun y hy e => (b.free y hy e).elim (fun z => by cases z) (fun z => by cases z), b.own⟩
end My

/-! ### own errors -/
namespace My
open PySem PySem.Spec PyProof.Rows L2
structure Ex (K : PySem.W.Frag) (mg : Str → Option Value) (x : Str) where
  C : Addr
  g : mg x = some (.ref C)
  x : PySem.W.excIn K C [.type "ValueError", .type "Exception", .type "BaseException", .type "object"] "ValueError.__new__" = true
  k : PySem.W.keepIn K (.ref C) = true
  b : PySem.W.subIn K (.ref C) (.type "BaseException") = some true
  t : PySem.W.typeIn K (.ref C) = some (.type "type")
  E : ExcC K C
def ex_mk {K : PySem.W.Frag} {mg : Str → Option Value} {x : Str} {h : Heap} (X : K.In h) (G : h.Ns mainGlobals mg) {C : Addr} (g : PySem.W.nsIn K mainGlobals x = some (some (.ref C)))
    (x1 : PySem.W.excIn K C [.type "ValueError", .type "Exception", .type "BaseException", .type "object"] "ValueError.__new__" = true) (x2 : PySem.W.keepIn K (.ref C) = true) (x3 : PySem.W.subIn K (.ref C) (.type "BaseException") = some true) (x4 : PySem.W.typeIn K (.ref C) = some (.type "type"))
    (y1 : PySem.W.findIn K (.ref C) "__getattribute__" = some (some (.builtin "BaseException.__getattribute__"))) (y2 : PySem.W.findIn K (.ref C) "__getattr__" = some none) (y3 : PySem.W.hasDictIn K C = true) (y4 : PySem.W.findIn K (.ref C) "__class__" = some (some (.builtin "object.__class__")))
    (y5 : PySem.W.specialIn K (.builtin "object.__class__") "__get__" = some (some (.builtin "getset_descriptor.__get__"))) (y6 : PySem.W.takesIn K (.builtin "object.__class__") = some true) (y7 : PySem.W.mroIn K C (.type "object") = some true) : Ex K mg x :=
  ⟨C, PySem.W.mg_of X G g, x1, x2, x3, x4, ⟨y1, y2, x3, y3, y4, y5, y6, y7⟩⟩
section
variable {K : PySem.W.Frag} {mg : Str → Option Value} {x y : Str} {cv : Value} {b : Bool}
theorem Ex.exm (e : Ex K mg x) (h : PySem.W.subIn K cv (.ref e.C) = some b) : PySem.W.exmOne K cv (.ref e.C) = some b := PySem.W.exm_ref e.b e.E.hd e.t h
theorem Ex.kcls (e : Ex K mg x) (h : PySem.W.subIn K cv (.ref e.C) = some b) : PySem.W.kitCls K cv (.ref e.C) = some b := by
  have hc : (PySem.W.clsIn K e.C).isSome = true := by
    have := e.E.hd
    unfold PySem.W.hasDictIn at this
    cases q : PySem.W.clsIn K e.C with
    | none => rw [q] at this; cases this
    | some c => rfl
  have e2 : ((PySem.W.clsIn K e.C).isSome && PySem.W.typeIn K (.ref e.C) == some (.type "type")) = true := by rw [hc, e.t] <;> rfl
  show (if ((PySem.W.clsIn K e.C).isSome && PySem.W.typeIn K (.ref e.C) == some (.type "type")) = true then PySem.W.subIn K cv (.ref e.C) else none) = some b
  rw [if_pos e2]
  exact h
/-- isinstance of an error's class: by the chains of the two classes -/
theorem Ex.kit (d : Ex K mg y) (e : Ex K mg x) (s : PySem.W.subIn K (.ref d.C) (.ref d.C) = some true) (h : PySem.W.subIn K (.ref d.C) (.ref e.C) = some b) : PySem.W.kitOne K (.ref d.C) (.ref e.C) = some b := by
  unfold PySem.W.kitOne
  split
  · next q =>
    have z : (Value.ref d.C) = .ref e.C := beq_iff_eq.mp q
    rw [← z, s] at h
    cases h
    rfl
  · exact e.kcls h
theorem Ex.kitT (d : Ex K mg y) {n : String} (h : PySem.W.subIn K (.ref d.C) (.type n) = some b) (m : PySem.W.kitMeta n = true := by decide +kernel) : PySem.W.kitOne K (.ref d.C) (.type n) = some b := by
  unfold PySem.W.kitOne
  split
  · next q =>
    have z : (Value.ref d.C) = .type n := beq_iff_eq.mp q
    cases z
  · show (if PySem.W.kitMeta n = true then PySem.W.subIn K (.ref d.C) (.type n) else none) = some b
    rw [if_pos m]
    exact h
end
/-- an error class that is only asked about -/
structure Ec (K : PySem.W.Frag) (mg : Str → Option Value) (x : Str) where
  C : Addr
  g : mg x = some (.ref C)
  t : PySem.W.typeIn K (.ref C) = some (.type "type")
  d : PySem.W.hasDictIn K C = true
def ec_mk {K : PySem.W.Frag} {mg : Str → Option Value} {x : Str} {h : Heap} (X : K.In h) (G : h.Ns mainGlobals mg) {C : Addr} (g : PySem.W.nsIn K mainGlobals x = some (some (.ref C)))
    (x1 : PySem.W.typeIn K (.ref C) = some (.type "type")) (x2 : PySem.W.hasDictIn K C = true) : Ec K mg x := ⟨C, PySem.W.mg_of X G g, x1, x2⟩
theorem Ex.kitC {K : PySem.W.Frag} {mg : Str → Option Value} {x y : Str} {b : Bool} (d : Ex K mg y) (e : Ec K mg x) (s : PySem.W.subIn K (.ref d.C) (.ref d.C) = some true) (h : PySem.W.subIn K (.ref d.C) (.ref e.C) = some b) : PySem.W.kitOne K (.ref d.C) (.ref e.C) = some b := by
  unfold PySem.W.kitOne
  split
  · next q =>
    have z : (Value.ref d.C) = .ref e.C := beq_iff_eq.mp q
    rw [← z, s] at h
    cases h
    rfl
  · have hc : (PySem.W.clsIn K e.C).isSome = true := by
      have := e.d
      unfold PySem.W.hasDictIn at this
      cases q : PySem.W.clsIn K e.C with
      | none => rw [q] at this; cases this
      | some c => rfl
    have e2 : ((PySem.W.clsIn K e.C).isSome && PySem.W.typeIn K (.ref e.C) == some (.type "type")) = true := by rw [hc, e.t] <;> rfl
    show (if ((PySem.W.clsIn K e.C).isSome && PySem.W.typeIn K (.ref e.C) == some (.type "type")) = true then PySem.W.subIn K (.ref d.C) (.ref e.C) else none) = some b
    rw [if_pos e2]
    exact h
/-- isinstance(e, c) in a suite, the error's class told in the reading -/
def rIsX (K : PySem.W.Frag) (cls : Value) (d : Option Addr) (a : Addr) : List V → Hp → VK → Prop := fun xs H Q => ∃ (D : Addr) (c : V) (cv : Value) (b : Bool), cls = .ref D ∧ d = none ∧ ExcC K D ∧ xs = [.ref a, c] ∧ (∀ u, RelV c u → u = cv) ∧ PySem.W.kitOne K (.ref D) cv = some b ∧ Q (.bl b) H
theorem call_isX {X : Cx} {a : Addr} {cls : Value} {d : Option Addr} {oe : Obj} {pn : List (Addr × Obj)} (hz : Zc cls d oe) (hf : ∃ vs, oe.data = .fields vs) : CallR (X.suite a ((a, oe) :: pn)) (.builtin "isinstance") (rIsX X.K cls d a) := by
  intro pins s σ H xs us Q I r h
  obtain ⟨D, c, cv, b, rfl, rfl, C, e, hc, hk, q⟩ := h
  exact call_isE C hz hf pins s σ H xs us Q I r ⟨c, cv, b, e, hc, hk, q⟩
section
variable {X : Cx}
/-- [..].count(x), of flat ones -/
def rCntF (K : PySem.W.Frag) : V → List V → Hp → VK → Prop := fun x xs H Q => ∃ (a : Addr) (ys : List V) (y : V), x = .ref a ∧ xs = [y] ∧ SqL K H a ys ∧ flatV y = true ∧ ys.all flatV = true ∧ Q (.int (ys.countP (fun z => eqV z y) : Nat)) H
theorem cnt_flat {y : V} : ∀ {us : List Value} {ys : List V}, Vals ys us → ys.all flatV = true → us.countP (eqU y) = ys.countP (fun z => eqV z y)
  | _, _, .nil, _ => rfl
  | _, _, .cons r t, f => by
    rw [List.all_cons, Bool.and_eq_true] at f
    rw [List.countP_cons, List.countP_cons, cnt_flat t f.2, eqU_of r f.1]
theorem mt_countF : MtR X "list.count" (rCntF X.K) := by
  intro pins s σ H x xs v us Q I rx rxs h
  obtain ⟨a, ys, y, rfl, rfl, hs, fy, fys, q⟩ := h
  cases rx
  cases rxs with
  | cons ry rt =>
    rename_i uy ut
    cases rt
    obtain ⟨its, rv, ⟨⟨cls, dd, data, sl⟩, n, ho, hc, hdn, hd⟩, hlen⟩ := I.list hs
    simp only at hc hd
    subst hc hd
    refine call_meets PySem.F.slot_list_count ⟨_, ho, rfl⟩ PySem.F.entry_list_count (PySem.F.args_list_count_2 _ _)
      (SeqAt.list_countAt a its.toArray n dd sl uy (eqU y)) ⟨ho, fun u' hu' => mem_eqAt ry fy rv fys u' (by simpa using hu'), ?_⟩
    refine ⟨.int (ys.countP (fun z => eqV z y) : Nat), H, I.tok _, ⟨s.toks, ?_⟩, q⟩
    show Value.int ((its.toArray.toList.countP (eqU y) : Nat) : Int) s.toks = Value.int ((ys.countP (fun z => eqV z y) : Nat) : Int) s.toks
    rw [show its.toArray.toList = its from rfl, cnt_flat rv fys]
theorem mt_countFK {K : PySem.W.Frag} (h : X.K = K) : MtR X "list.count" (rCntF K) := by subst h; exact mt_countF
theorem mt_indexK {K : PySem.W.Frag} (h : X.K = K) : MtR X "list.index" (L2.rIndex K) := by subst h; exact mt_index
theorem pe_bmK {K : PySem.W.Frag} {T name id : String} {r : V → List V → Hp → VK → Prop} {o e : Expr} {es : List Expr} {to : TE} {t : TA} {apos cpos : Pos} (h : X.K = K) (pa : PlainAttrs T) (slot : Slot T name id) (hty : typeOf (.builtin id) = pure (.type "method_descriptor")) (hm : MtR X id r) (ho : PE X o to) (ha : PA X (e :: es) t)
    (hbase : attributeBase o name X.env (eval o X.env) = eval o X.env := by rfl)
    (hfew : ((backTo cpos (starEach (e :: es) X.env)).all (fun x => !x.1) && (backToKw cpos (keywordEach [] X.env)).all (fun x => x.1.isSome)
      && decide ((e :: es).length + ([] : List Keyword).length + (if ([] : List Keyword).isEmpty then 0 else 1) < 30)) = true := by rfl)
    (hline : (apos.endLine == cpos.line) = true := by rfl) (hs : starEach (e :: es) X.env = (false, eval e X.env) :: starEach es X.env := by rfl) (hplain : (backTo cpos (starEach es X.env)).any (·.1) = false := by rfl) :
    PE X (.Call (.Attribute o name apos) (e :: es) [] cpos) (tBM K T r to t) := by
  subst h
  exact pe_bm pa slot hty hm ho ha hbase hfew hline hs hplain
theorem op_eqVK {K : PySem.W.Frag} (hu : X.A.units + 64 < cLine) (h : X.K = K) : OpR X (compareOp .Eq) (rEqV K) := by subst h; exact op_eqV hu
end
end My

/-! ### != of lists of like items: the same ones, or lists of the same ones -/
namespace My
open PySem PySem.Spec PyProof.Rows L2
def PlainQ (x : V) : Prop := flatB x = true ∨ ∃ r, x = .ref r
def EqQ (K : PySem.W.Frag) (H : Hp) (u v : V) : Prop := (u = v ∧ PlainQ u) ∨ ∃ a b zs, u = .ref a ∧ v = .ref b ∧ SqL K H a zs ∧ SqL K H b zs ∧ ∀ z ∈ zs, PlainQ z
def rNeQ (K : PySem.W.Frag) : R2 := fun x y H Q => ∃ a b xs ys, x = .ref a ∧ y = .ref b ∧ SqL K H a xs ∧ SqL K H b ys ∧ Paired (EqQ K H) xs ys ∧ Q (.bl false) H
theorem plainQ_at {A : Around} {s : Shared} {x : V} {u w : Value} (h : PlainQ x) (r : RelV x u) (r' : RelV x w) : SeqAt.EqAt A s u w true := by
  rcases h with h | ⟨a, rfl⟩
  · exact eqAt_same r r' h
  · cases (show u = Value.ref a from r)
    cases (show w = Value.ref a from r')
    exact SeqAt.EqAt.same _
theorem plainQ_all {A : Around} {s : Shared} : ∀ {xs : List V} {us ws : List Value}, (∀ x ∈ xs, PlainQ x) → Vals xs us → Vals xs ws → ∀ j (h1 : j < us.length) (h2 : j < ws.length), SeqAt.EqAt A s us[j] ws[j] true
  | _, _, _, _, .nil, .nil, j, h1, _ => absurd h1 (Nat.not_lt_zero j)
  | _, _, _, hp, .cons a1 b1, .cons a2 b2, 0, _, _ => plainQ_at (hp _ List.mem_cons_self) a1 a2
  | _, _, _, hp, .cons a1 b1, .cons a2 b2, j + 1, h1, h2 => plainQ_all (fun y hy => hp y (List.mem_cons_of_mem _ hy)) b1 b2 j (Nat.lt_of_succ_lt_succ h1) (Nat.lt_of_succ_lt_succ h2)
section
variable {X : Cx} {pins : List (Addr × Obj)} {σ : L2.St} {H : Hp} {s : Shared}
theorem eqQ_at (I : Inv X pins σ H s) {A : Around} (hu : A.units < cLine) {x y : V} {u w : Value} (h : EqQ X.K H x y) (r : RelV x u) (r' : RelV y w) : SeqAt.EqAt A s u w true := by
  rcases h with ⟨rfl, hp⟩ | ⟨a, b, zs, rfl, rfl, ha, hb, hp⟩
  · exact plainQ_at hp r r'
  · cases (show u = Value.ref a from r)
    cases (show w = Value.ref b from r')
    by_cases e : a = b
    · subst e; exact SeqAt.EqAt.same _
    · obtain ⟨us, r1, p1, _⟩ := I.list ha
      obtain ⟨ws, r2, p2, _⟩ := I.list hb
      have hsz : us.toArray.size = ws.toArray.size := by
        rw [List.size_toArray, List.size_toArray, ← r1.length, ← r2.length]
      refine SeqAt.EqAt.of_refs e ?_
      have k := SeqAt.RcAt.lists (e := fun _ => true) p1.isList p2.isList hsz hu (A := A) (fun j h1 h2 => by
        have := plainQ_all (A := A.in1) (s := s) hp r1 r2 j (by simpa using h1) (by simpa using h2)
        simpa using this)
      rwa [show ((List.range us.toArray.size).all fun _ => true) = true from List.all_eq_true.mpr fun _ _ => rfl] at k
theorem eqQ_all (I : Inv X pins σ H s) {A : Around} (hu : A.units < cLine) {xs ys : List V} (h : Paired (EqQ X.K H) xs ys) : ∀ {us ws : List Value}, Vals xs us → Vals ys ws → ∀ j (h1 : j < us.length) (h2 : j < ws.length), SeqAt.EqAt A s us[j] ws[j] true := by
  induction h with
  | nil =>
    intro us ws r1 r2 j h1 h2
    cases r1
    exact absurd h1 (Nat.not_lt_zero j)
  | cons h _ k =>
    intro us ws r1 r2 j h1 h2
    cases r1 with
    | cons a1 b1 =>
      cases r2 with
      | cons a2 b2 =>
        cases j with
        | zero => exact eqQ_at I hu h a1 a2
        | succ j => exact k b1 b2 j (Nat.lt_of_succ_lt_succ h1) (Nat.lt_of_succ_lt_succ h2)
end
theorem op_neQ {X : Cx} (hu : X.A.units + 64 < cLine) : OpR X (compareOp .NotEq) (rNeQ X.K) := by
  intro pins s σ H x y v u Q I rx ry h
  obtain ⟨a, b, xs, ys, rfl, rfl, ha, hb, hp, q⟩ := h
  cases (show v = Value.ref a from rx)
  cases (show u = Value.ref b from ry)
  obtain ⟨us, r1, p1, _⟩ := I.list ha
  obtain ⟨ws, r2, p2, _⟩ := I.list hb
  have hsz : us.toArray.size = ws.toArray.size := by
    rw [List.size_toArray, List.size_toArray, ← r1.length, ← r2.length]
    exact Paired.length hp
  have k := SeqAt.RcNeAt.lists (e := fun _ => true) p1.isList p2.isList hsz (show X.A.units < cLine by omega) (fun j h1 h2 => by
    have := eqQ_all I (A := X.A.in1) (show X.A.units + 1 < cLine by omega) hp r1 r2 j (by simpa using h1) (by simpa using h2)
    simpa using this)
  rw [show ((List.range us.toArray.size).all fun _ => true) = true from List.all_eq_true.mpr fun _ _ => rfl] at k
  exact k _ _ _ _ ⟨.bl false, H, I, rfl, q⟩
theorem op_neQK {X : Cx} {K : PySem.W.Frag} (hu : X.A.units + 64 < cLine) (h : X.K = K) : OpR X (compareOp .NotEq) (rNeQ K) := by subst h; exact op_neQ hu
theorem eqQ_refl {K : PySem.W.Frag} {H : Hp} : ∀ {xs : List V}, (∀ x ∈ xs, PlainQ x) → Paired (EqQ K H) xs xs
  | [], _ => .nil
  | x :: xs, h => .cons (.inl ⟨rfl, h x (List.mem_cons_self ..)⟩) (eqQ_refl fun y hy => h y (List.mem_cons_of_mem _ hy))
end My

/-! ### defs with keyword-only defaults -/
namespace My
open PySem PySem.Spec PyProof.Rows L2
structure DfK (K : PySem.W.Frag) (mg : Str → Option Value) (x : Str) (st : Stmt) (ps : List Str) (kws : List (Str × V)) where
  f : Addr
  fd : FuncData
  FD : FunD K x x (defArgs st) (defBody st) (defScope st) [] kws f fd
  bx : ∃ ds, Vals (kws.map (·.2)) ds ∧ Binds K fd ps ds
  g : mg x = some (.ref f)
section
variable {K : PySem.W.Frag} {mg : Str → Option Value} {x : Str} {st : Stmt} {ps : List Str} {kws : List (Str × V)}
theorem DfK.F (d : DfK K mg x st ps kws) : Fun K x x st d.f d.fd := by
  obtain ⟨oc, od, dV, kV, doc, pm, an, cdv, ct, osl, e, l, c, hd, _⟩ := d.FD.ex
  rcases hd with ⟨_, e2⟩ | ⟨e2, _⟩
  · subst e2
    exact ⟨⟨oc, od, kV, doc, pm, an, cdv, ct, osl, e, l, c⟩, d.FD.kp⟩
  · exact absurd rfl e2
theorem DfK.v (d : DfK K mg x st ps kws) : Vals (kws.map (·.2)) (Classical.choose d.bx) := (Classical.choose_spec d.bx).1
theorem DfK.b (d : DfK K mg x st ps kws) : Binds K d.fd ps (Classical.choose d.bx) := (Classical.choose_spec d.bx).2
def dfK_mk {h : Heap} (X : K.In h) (G : h.Ns mainGlobals mg) {f D : Addr} {oc : Value} {od an : Option Addr} {osl : Array (Option Value)} {doc pm cdv ct u : Value} {y : Str} {v : V} (n : Nat)
    (a : PySem.W.nsIn K mainGlobals x = some (some (.ref f))) (l : K.lookup f = some ⟨oc, od, .func (PySem.W.fnOf x x (defArgs st) (defBody st) (defScope st) .none (.ref D) doc pm an cdv ct), osl⟩)
    (c : PySem.W.codeIn K cdv x = true) (k : PySem.W.keepIn K (.ref f) = true) (e : PySem.W.nsIn K D y = some (some u)) (rv : RelV v u) (hn : n + 1 = ps.length)
    (hb : ∀ (D : Addr) (doc pm : Value) (an : Option Addr) (cdv ct : Value) (us ks : List Value), us.length = n → ks.length = 1 →
      KwChain D ([y].zip ks) (bindArgs (PySem.W.fnOf x x (defArgs st) (defBody st) (defScope st) .none (.ref D) doc pm an cdv ct) ⟨us, []⟩) (ps.zip (us ++ ks))) : DfK K mg x st ps [(y, v)] :=
  have F : FunD K x x (defArgs st) (defBody st) (defScope st) [] [(y, v)] f (PySem.W.fnOf x x (defArgs st) (defBody st) (defScope st) .none (.ref D) doc pm an cdv ct) := ⟨⟨oc, od, .none, .ref D, doc, pm, an, cdv, ct, osl, rfl, l, c, .inl ⟨rfl, rfl⟩, .inr ⟨D, rfl, fun q hq => by rw [List.mem_singleton.mp hq]; exact ⟨u, e, rv⟩⟩⟩, k⟩
  ⟨f, _, F, F.binds0 n (by intro z; cases z) hn hb, PySem.W.mg_of X G a⟩
end
/-! ### a call by keywords in a try's body -/
def tCallNS (n m : Nat) (sp : Sp) (gV : List V → List V → List V) (E : L2.St → XK) (t tk : TA) : TE := fun σ H Q => t σ H fun vs H1 => tk σ H1 fun zs H2 => vs.length = n ∧ zs.length = m ∧ sp (gV vs zs) H2 Q (E σ)
section
variable {X : Cx} {CX : CXT} {k n : Nat} {f : Addr} {fd : FuncData} {ps ks : List Str} {sp : Sp} {E : L2.St → XK} {x : Str} {p pos : Pos} {e : Expr} {es : List Expr} {kws : List Keyword} {t tk : TA} {g : List Value → List Value → List Value} {gV : List V → List V → List V}
theorem run_fnNS {pins : List (Addr × Obj)} {σ : L2.St} {H : Hp} {s : Shared} {Q : VK} {us ws : List Value} {vs zs : List V} (F : FnOk X.prog X.w X.K X.mg X.base CX k f fd ps sp) (hr : Room k X.A) (hb : KBn X.K fd ps n ks g gV) (hx : PassesAt CX X σ (E σ))
    (I : Inv X pins σ H s) (r : Vals vs us) (rz : Vals zs ws) (l1 : vs.length = n) (l2 : zs.length = ks.length) (h : sp (gV vs zs) H Q (E σ)) : wpAny (model X.prog X.w) X.A (call (.ref f) us (ks.zip ws)) (EP X pins σ Q) X.xe s := by
  have r2 := hb.rel r rz
  refine wpAny_call (codeAny_mono (F.run X.A X.stack s H ⟨us, ks.zip ws⟩ (g us ws) (gV vs zs) Q (E σ) hr I.env0 (hb.to s us ws I.kIn (r.length.symm.trans l1) (rz.length.symm.trans l2)) r2 h) fun r s' hq => ?_)
  cases r with
  | error e => exact hx pins H s e s' I hq
  | ok fl =>
    cases fl with
    | ret u => exact I.after hq
    | next => exact False.elim hq
    | brk => exact False.elim hq
    | cont => exact False.elim hq
theorem pe_callNS (F : FnOk X.prog X.w X.K X.mg X.base CX k f fd ps sp) (hr : Room k X.A) (hg : Gl X x) (hm : X.mg x = some (.ref f)) (hk : PySem.W.keepIn X.K (.ref f) = true) (hb : KBn X.K fd ps n ks g gV) (hx : ∀ σ, PassesAt CX X σ (E σ))
    (ha : PA X (e :: es) t) (hkw : PK X kws tk) (hall : (backToKw pos (keywordEach kws X.env)).all (·.1.isSome) = true := by rfl) (hks : (backToKw pos (keywordEach kws X.env)).filterMap (·.1) = ks := by rfl)
    (hdb : (x == ("__debug__" : Str)) = false := by decide) (he : starEach (e :: es) X.env = (false, eval e X.env) :: starEach es X.env := by rfl)
    (hpl : ((backTo pos (starEach (e :: es) X.env)).any (·.1) || (backToKw pos (keywordEach kws X.env)).any (·.1.isNone)) = false := by rfl) :
    PE X (.Call (.Name x p) (e :: es) kws pos) (tCallNS n ks.length sp gV E t tk) := by
  refine ⟨fun pins s σ H Q I h => ?_⟩
  refine wpAny_Call_Name_kw (ld_glob I hg hm ?_ hdb)
  refine PySem.W.callWith_KW (h₀ := X.base) I.ok.mod.kin hk hall (thn (ha.run pos pins s σ H _ I h) fun us s1 ⟨vs, H1, I1, r, q⟩ => ?_) hpl he
  refine thn (hkw.run pos pins s1 σ H1 _ I1 q) fun ws s2 ⟨zs, H2, I2, rz, l1, l2, q2⟩ => ⟨I2.kIn, ?_⟩
  rw [hks]
  exact run_fnNS F hr hb (hx σ) I2 r rz l1 l2 q2
end
/-- a tuple that stands ahead -/
theorem sqT_K {K : PySem.W.Frag} {a : Addr} {o : Obj} {its : Array Value} {n : Nat} {xs : List V} (l : K.lookup a = some o) (c : o.cls = .type "tuple") (d : o.data = .seq its n) (z : its.size ≤ sizeLine) (r : Vals xs its.toList) (H : Hp) : SqT K H a xs := .inr ⟨o, its, n, l, c, d, z, r⟩
theorem SqT.tyx {K : PySem.W.Frag} {H : Hp} {a : Addr} {xs : List V} (h : SqT K H a xs) : TyX K H (.ref a) (.type "tuple") := by
  rcases h with (h | ⟨o, h⟩) | ⟨o, its, n, l, c, _⟩
  · exact .base (.tup h)
  · exact .fTuple h
  · exact .kTuple l c
/-- isinstance(x, tuple), of a tuple that stands ahead, too -/
def rIsTup (K : PySem.W.Frag) : List V → Hp → VK → Prop := fun xs H Q => (∃ x t, xs = [x, .ty "tuple"] ∧ Ty7 H x t ∧ Q (.bl (decide (t = "tuple"))) H) ∨ ∃ a ys, xs = [.ref a, .ty "tuple"] ∧ SqT K H a ys ∧ Q (.bl true) H
theorem call_isTup {X : Cx} : CallR X (.builtin "isinstance") (rIsTup X.K) := by
  intro pins s σ H xs us Q I r h
  rcases h with ⟨x, t, e, h7, q⟩ | ⟨a, ys, e, hs, q⟩
  · exact is_tuple pins s σ H xs us Q I r ⟨x, t, e, h7, q⟩
  · exact call_isi pins s σ H xs us Q I r ⟨_, _, _, _, _, e, .ty _, SqT.tyx hs, kit_ty (by decide +kernel), q⟩
theorem call_isTupK {X : Cx} {K : PySem.W.Frag} (h : X.K = K) : CallR X (.builtin "isinstance") (rIsTup K) := h ▸ call_isTup
end My

/-! ### own classes whose __init__ has keyword-only defaults -/
namespace My
open PySem PySem.Spec PyProof.Rows L2 RZ
structure Cl (K : PySem.W.Frag) (mg : Str → Option Value) (x : Str) where
  C : Addr
  g : mg x = some (.ref C)
  cls : Cls K C
def cl_mk {K : PySem.W.Frag} {mg : Str → Option Value} {x : Str} {h : Heap} (X : K.In h) (G : h.Ns mainGlobals mg) {C : Addr} (a : PySem.W.nsIn K mainGlobals x = some (some (.ref C)))
    (pg : PySem.W.plainGet K C Str.empty = true) (hd : PySem.W.hasDictIn K C = true) (po : PySem.W.plainOver K C = true) (sa : PySem.W.findIn K (.ref C) "__setattr__" = some (some (.builtin "object.__setattr__"))) : Cl K mg x :=
  ⟨C, PySem.W.mg_of X G a, ⟨pg, hd, po, sa⟩⟩
inductive KwIn (K : PySem.W.Frag) (D : Addr) : List (Str × V) → Prop
  | nil : KwIn K D []
  | cons {y : Str} {v : V} {u : Value} {l : List (Str × V)} (e : PySem.W.nsIn K D y = some (some u)) (r : RelV v u) (t : KwIn K D l) : KwIn K D ((y, v) :: l)
theorem KwIn.all {K : PySem.W.Frag} {D : Addr} : ∀ {l : List (Str × V)}, KwIn K D l → ∀ q ∈ l, ∃ u, PySem.W.nsIn K D q.1 = some (some u) ∧ RelV q.2 u
  | _, .nil, q, h => by cases h
  | _, .cons e r t, q, h => by
    rcases List.mem_cons.mp h with rfl | h
    · exact ⟨_, e, r⟩
    · exact t.all q h
structure Ini (K : PySem.W.Frag) (q : Str) (st : Stmt) (C : Addr) (kws : List (Str × V)) where
  f : Addr
  fd : FuncData
  FD : FunD K "__init__" q (defArgs st) (defBody st) (defScope st) [] kws f fd
  mks : Mk K C f
theorem Ini.F {K : PySem.W.Frag} {q : Str} {st : Stmt} {C : Addr} {kws : List (Str × V)} (d : Ini K q st C kws) : Fun K "__init__" q st d.f d.fd := by
  obtain ⟨oc, od, dV, kV, doc, pm, an, cdv, ct, osl, e, l, c, hd, _⟩ := d.FD.ex
  rcases hd with ⟨_, e2⟩ | ⟨e2, _⟩
  · subst e2
    exact ⟨⟨oc, od, kV, doc, pm, an, cdv, ct, osl, e, l, c⟩, d.FD.kp⟩
  · exact absurd rfl e2
def ini_mk {K : PySem.W.Frag} {q : Str} {st : Stmt} {C : Addr} {kws : List (Str × V)} {f D : Addr} {oc : Value} {od an : Option Addr} {osl : Array (Option Value)} {doc pm cdv ct : Value}
    (i : PySem.W.findIn K (.ref C) "__init__" = some (some (.ref f))) (m : PySem.W.makesIn K C = true) (fn : PySem.W.isFn K (.ref f) = true) (kc : PySem.W.keepIn K (.ref C) = true)
    (l : K.lookup f = some ⟨oc, od, .func (PySem.W.fnOf "__init__" q (defArgs st) (defBody st) (defScope st) .none (.ref D) doc pm an cdv ct), osl⟩) (c : PySem.W.codeIn K cdv q = true) (k : PySem.W.keepIn K (.ref f) = true) (kw : KwIn K D kws) : Ini K q st C kws :=
  ⟨f, _, ⟨⟨oc, od, .none, .ref D, doc, pm, an, cdv, ct, osl, rfl, l, c, .inl ⟨rfl, rfl⟩, .inr ⟨D, rfl, kw.all⟩⟩, k⟩, ⟨m, i, fn, kc⟩⟩
/-- one of a list, as a list -/
def pick1 {α : Type} (i : Nat) (l : List α) : List α := (l.drop i).take 1
theorem vals_pick {xs : List V} {us : List Value} (r : Vals xs us) (i : Nat) : Vals (pick1 i xs) (pick1 i us) := (r.drop i).take 1
/-! #### o.f as a target among others -/
def gFld (K : PySem.W.Frag) (to : TE) (f : Str) : TG := fun y σ H Q => to σ H fun x H2 => ∃ a C dx fs, x = .ref a ∧ H2 a = some (.ins C dx fs) ∧ Cls K C ∧ NoAttr K C f ∧ fs.length < 1000 ∧ Q σ (upd H2 a (.ins C dx (putF f y fs)))
theorem pg_fld {X : Cx} {o : Expr} {f : Str} {pos : Pos} {to : TE} (ho : PE X o to) : PG X (.Attribute o f pos) (gFld X.K to f) := by
  refine ⟨fun pins s σ H v u Q I r h => ?_⟩
  rw [assign_Attribute]
  refine wpAny_bind (wpAny_holding (thn (ho.run pins s σ H _ I h) fun ov s2 ⟨x, H2, I2, rx, a, C, dx, fs, ex, ea, c, n, l, q2⟩ => ?_))
  subst ex
  obtain rfl : ov = Value.ref a := rx
  exact wpAny_bind (wpAny_standAt (wpAny_bind (wpAny_holding (setattr_ok I2 ea c n l r fun s3 I3 => wpAny_release ⟨σ, _, I3, q2⟩))))
theorem pg_fldK {X : Cx} {K : PySem.W.Frag} (h : X.K = K) {o : Expr} {f : Str} {pos : Pos} {to : TE} (ho : PE X o to) : PG X (.Attribute o f pos) (gFld K to f) := h ▸ pg_fld ho
/-! #### zip of two tuples -/
theorem pi_zipAK {X : Cx} {K : PySem.W.Frag} (h : X.K = K) {e e2 : Expr} {ta : TA} {p pos tpos : Pos} {elts : List Expr} {kk : Nat} (hg : Gl X "zip") (hm : X.mg "zip" = none) (ha : PA X [e, e2] ta)
    (he : starEach [e, e2] X.env = (false, eval e X.env) :: starEach [e2] X.env := by rfl) (hpl : (backTo pos (starEach [e2] X.env)).any (·.1) = false := by rfl) : PI X (.Tuple elts kk tpos) (.Call (.Name "zip" p) [e, e2] [] pos) (iZipA K ta) := h ▸ pi_zipA hg hm ha he hpl
section
variable {K : PySem.W.Frag} {g : TG} {tt : TT} {te : TE} {vs : List Nat} {σ : L2.St} {H1 : Hp} {D a b : Addr} {Qd : Hp → Prop} {xs zs : List V} {n : Nat}
theorem lcZT (hlen : xs.length = zs.length) (P : Nat → List V → Hp → Prop) (h0 : ∀ H', Same H1 H' → H' D = some (.lst []) → P 0 [] H') (hD : H1 D = none) (hl : ∀ i acc H, P i acc H → SqT K H a xs ∧ SqT K H b zs)
    (hs : ∀ i x z acc H T H' Kt Kf, xs[i]? = some x → zs[i]? = some z → P i acc H → H D = some (.lst acc) → H T = none → Same H H' → H' T = some (.tup [x, z]) → LcK D (P (i + 1)) acc Kt Kf → LcT g tt te vs σ (.ref T) H' Kt Kf)
    (hd : ∀ acc H, P xs.length acc H → H D = some (.lst acc) → Qd H) : LcG (ItzT K a b) g tt te vs σ H1 D Qd := by
  refine ⟨fun i m H => m = xs.length - i ∧ i ≤ xs.length ∧ ∃ acc, H D = some (.lst acc) ∧ P i acc H, ⟨xs.length, rfl, Nat.zero_le _, [], upd_same, h0 _ (Same.upd0 hD) upd_same⟩, ?_⟩
  rintro i m H ⟨rfl, hi, acc, e, p⟩
  obtain ⟨q1, q2⟩ := hl i acc H p
  by_cases hlt : i < xs.length
  · have hlt2 : i < zs.length := by omega
    refine .inr ⟨⟨xs, zs, xs[i], zs[i], q1, q2, by simp [hlt], by simp [hlt2]⟩, fun H => ∃ acc, H D = some (.lst acc) ∧ P (i + 1) acc H, fun H' p' => ⟨xs.length - (i + 1), by omega, rfl, hlt, p'⟩, fun v H' y => ?_⟩
    obtain ⟨T, x, z, rfl, nT, rfl, hx, hz⟩ := y
    exact hs i x z acc H T _ _ _ (hx xs q1) (hz zs q2) p e nT (Same.upd0 nT) upd_same ⟨fun y H4 e4 z k => ⟨acc, e4, z, acc ++ [y], upd_same, k _ But.refl.upd upd_same⟩, fun H3 e3 k => ⟨acc, e3, k⟩⟩
  · have ei : i = xs.length := by omega
    subst ei
    exact .inl ⟨⟨xs, zs, q1, q2, .inl (Nat.le_refl _)⟩, hd acc H p e⟩
/-- .. all the same thing -/
theorem lcZTc (v : V) (hlen : xs.length = zs.length) (hD : H1 D = none) (ha : SqT K H1 a xs) (hb : SqT K H1 b zs) (hz : xs.length ≤ 100000)
    (hs : ∀ (i : Nat) (x z : V) (T : Addr) (H' : Hp) (Kt : V → Hp → Prop) (Kf : Hp → Prop), xs[i]? = some x → zs[i]? = some z → Same H1 H' → H' T = some (.tup [x, z]) → (∀ H4, Same H' H4 → Kt v H4) → LcT g tt te vs σ (.ref T) H' Kt Kf)
    (hd : ∀ H, Same H1 H → H D = some (.lst (List.replicate xs.length v)) → Qd H) : LcG (ItzT K a b) g tt te vs σ H1 D Qd :=
  lcZT hlen (fun i acc H => acc = List.replicate i v ∧ Same H1 H) (fun H' s _ => ⟨rfl, s⟩) hD (fun i acc H p => ⟨Same.seqT p.2 ha, Same.seqT p.2 hb⟩)
    (fun i x z acc H T H' Kt Kf hx hz' p e nT s gT k => by
      obtain ⟨rfl, sm⟩ := p
      have hi := (List.getElem?_eq_some_iff.mp hx).1
      refine hs i x z T H' Kt Kf hx hz' (sm.trans s) gT fun H4 s4 => k.yes v H4 (s4 _ _ (s _ _ e)) (by rw [List.length_replicate, sizeLine_eq]; omega) fun H5 b5 _ => ⟨List.replicate_succ'.symm, Same.mut' ((sm.trans s).trans s4) b5 hD⟩)
    (fun acc H p e => hd H p.2 (by rw [← p.1]; exact e))
end
end My

/-! ### making instances where the __init__ may raise; isinstance of own instances -/
namespace My
open PySem PySem.Spec PyProof.Rows L2
def tMakeKS (C : Addr) (n m : Nat) (sp : Sp) (gV : List V → List V → List V) (E : L2.St → XK) (t tk : TA) : TE := fun σ H Q => t σ H fun vs H1 => tk σ H1 fun zs H2 => vs.length = n ∧ zs.length = m ∧ ∀ x dx, H2 x = none → H2 dx = none → dx ≠ x →
  sp (gV (.ref x :: vs) zs) (upd (upd H2 dx (.own x)) x (.ins C dx [])) (fun v H3 => v = .non ∧ Q (.ref x) H3) (E σ)
section
variable {X : Cx} {CX : CXT} {k n : Nat} {f C : Addr} {fd : FuncData} {ps ks : List Str} {sp : Sp} {E : L2.St → XK} {x : Str} {p pos : Pos} {e : Expr} {es : List Expr} {kws : List Keyword} {t tk : TA} {g : List Value → List Value → List Value} {gV : List V → List V → List V}
theorem run_makeKS {pins : List (Addr × Obj)} {σ : L2.St} {H : Hp} {s : Shared} {Q : VK} {us ws : List Value} {vs zs : List V} (M : Mk X.K C f) (F : FnOk X.prog X.w X.K X.mg X.base CX k f fd ps sp) (hr : Room (k + 1) X.A) (hb : KBn X.K fd ps (n + 1) ks g gV) (hx : PassesAt CX X σ (E σ))
    (I : Inv X pins σ H s) (r : Vals vs us) (rz : Vals zs ws) (l1 : vs.length = n) (l2 : zs.length = ks.length)
    (h : ∀ x dx, H x = none → H dx = none → dx ≠ x → sp (gV (.ref x :: vs) zs) (upd (upd H dx (.own x)) x (.ins C dx [])) (fun v H2 => v = .non ∧ Q (.ref x) H2) (E σ)) :
    wpAny (model X.prog X.w) X.A (call (.ref C) us (ks.zip ws)) (EP X pins σ Q) X.xe s := by
  have hq := h (s.heap.objs.size + 1) s.heap.objs.size (I.hok.fresh (Nat.le_succ _)) (I.hok.fresh (Nat.le_refl _)) (Nat.ne_of_lt (Nat.lt_succ_self _))
  have I2 := Inv.made (C := C) I
  have r1 : Vals (V.ref (s.heap.objs.size + 1) :: vs) (Value.ref (s.heap.objs.size + 1) :: us) := .cons rfl r
  have r2 := hb.rel r1 rz
  have n1 : (Value.ref (s.heap.objs.size + 1) :: us).length = n + 1 := by
    rw [List.length_cons, ← r.length, l1]
  refine wpAny_call (make_map (f := f) I.kIn M.makes M.init (beq_iff_eq.mp M.fn) (codeAny_mono (F.run _ X.stack _ _ ⟨Value.ref (s.heap.objs.size + 1) :: us, ks.zip ws⟩ (g (Value.ref (s.heap.objs.size + 1) :: us) ws) _ _ (E σ) (hr.make C us (ks.zip ws))
    (I2.env0.make C us (ks.zip ws)) (hb.to _ (Value.ref (s.heap.objs.size + 1) :: us) ws I2.kIn n1 (rz.length.symm.trans l2)) r2 hq) fun r s' hq' => ?_))
  cases r with
  | error e => exact hx pins _ _ e s' I2 hq'
  | ok fl =>
    cases fl with
    | ret u =>
      obtain ⟨v, H', I3, rv, ev, q3⟩ := I2.after hq'
      subst ev
      exact ⟨rv, ⟨V.ref (s.heap.objs.size + 1), H', I3, rfl, q3⟩⟩
    | next => exact False.elim hq'
    | brk => exact False.elim hq'
    | cont => exact False.elim hq'
/-- C(e, .., k = v, ..) in a try's body -/
theorem pe_makeKS (M : Mk X.K C f) (F : FnOk X.prog X.w X.K X.mg X.base CX k f fd ps sp) (hr : Room (k + 1) X.A) (hg : Gl X x) (hm : X.mg x = some (.ref C)) (hb : KBn X.K fd ps (n + 1) ks g gV) (hx : ∀ σ, PassesAt CX X σ (E σ)) (ha : PA X (e :: es) t) (hkw : PK X kws tk)
    (hall : (backToKw pos (keywordEach kws X.env)).all (·.1.isSome) = true := by rfl) (hks : (backToKw pos (keywordEach kws X.env)).filterMap (·.1) = ks := by rfl) (hdb : (x == ("__debug__" : Str)) = false := by decide)
    (he : starEach (e :: es) X.env = (false, eval e X.env) :: starEach es X.env := by rfl) (hpl : ((backTo pos (starEach (e :: es) X.env)).any (·.1) || (backToKw pos (keywordEach kws X.env)).any (·.1.isNone)) = false := by rfl) :
    PE X (.Call (.Name x p) (e :: es) kws pos) (tMakeKS C n ks.length sp gV E t tk) := by
  refine ⟨fun pins s σ H Q I h => ?_⟩
  refine wpAny_Call_Name_kw (ld_glob I hg hm ?_ hdb)
  refine PySem.W.callWith_KW (h₀ := X.base) I.ok.mod.kin M.kp hall (thn (ha.run pos pins s σ H _ I h) fun us s1 ⟨vs, H1, I1, r, q⟩ => ?_) hpl he
  refine thn (hkw.run pos pins s1 σ H1 _ I1 q) fun ws s2 ⟨zs, H2, I2, rz, l1, l2, q2⟩ => ⟨I2.kIn, ?_⟩
  rw [hks]
  exact run_makeKS M F hr hb (hx σ) I2 r rz l1 l2 q2
end
/-- the defaults of an __init__ called by places alone -/
theorem Ini.bx {K : PySem.W.Frag} {q : Str} {st : Stmt} {C : Addr} {kws : List (Str × V)} (d : Ini K q st C kws) {ps : List Str} (n : Nat) (hk : kws ≠ []) (hn : n + kws.length = ps.length)
    (h : ∀ (D : Addr) (doc pm : Value) (an : Option Addr) (cdv ct : Value) (us ks : List Value), us.length = n → ks.length = kws.length →
      KwChain D ((kws.map (·.1)).zip ks) (bindArgs (PySem.W.fnOf "__init__" q (defArgs st) (defBody st) (defScope st) .none (.ref D) doc pm an cdv ct) ⟨us, []⟩) (ps.zip (us ++ ks))) : ∃ ds, Vals (kws.map (·.2)) ds ∧ Binds K d.fd ps ds := d.FD.binds0 n hk hn h
/-- isinstance of an instance, by its class's chain -/
theorem kit_own {K : PySem.W.Frag} {C D : Addr} {b : Bool} (s : PySem.W.subIn K (.ref C) (.ref C) = some true) (h : PySem.W.subIn K (.ref C) (.ref D) = some b) (t : PySem.W.typeIn K (.ref D) = some (.type "type")) (hd : PySem.W.hasDictIn K D = true) : PySem.W.kitOne K (.ref C) (.ref D) = some b := by
  unfold PySem.W.kitOne
  split
  · next q =>
    have z : (Value.ref C) = .ref D := beq_iff_eq.mp q
    rw [← z, s] at h
    cases h
    rfl
  · have hc : (PySem.W.clsIn K D).isSome = true := by
      have := hd
      unfold PySem.W.hasDictIn at this
      cases q : PySem.W.clsIn K D with
      | none => rw [q] at this; cases this
      | some c => rfl
    have e2 : ((PySem.W.clsIn K D).isSome && PySem.W.typeIn K (.ref D) == some (.type "type")) = true := by rw [hc, t] <;> rfl
    show (if ((PySem.W.clsIn K D).isSome && PySem.W.typeIn K (.ref D) == some (.type "type")) = true then PySem.W.subIn K (.ref C) (.ref D) else none) = some b
    rw [if_pos e2]
    exact h
end My

/-! ### any(a list) in an except suite; lists of truths there -/
namespace My
open PySem PySem.Spec PyProof.Rows L2 HotX
section
variable {prog : Program} {w : World} {A : Around} {E : Value → Shared → Prop} {s : Shared}
theorem pyNext_list_end_hot {it l x1 : Addr} {i : Nat} {items : Array Value} {Q : Option Value → Shared → Prop} (hot : HotAt A x1 s.heap) (hne : x1 ≠ it)
    (hit : s.heap.IsListIter it l i) (hl : s.heap.IsList l items) (hx : items[i]? = none)
    (hQ : ∀ h', Heap.ExtBut it s.heap h' → Q none { s with heap := h' }) : wpAny (model prog w) A (pyNext (.ref it)) Q E s := by
  obtain ⟨o, ho, hc, hd⟩ := id hit
  obtain ⟨ol, hol, _, nl, hdl⟩ := hl
  obtain ⟨hh, o1, vs1, h1, d1, c1⟩ := hot
  unfold pyNext
  refine wpAny_bind (wpAny_attempt (wpAny_callSpecial?_slot (name := Str.ofString "__next__") hit.typeIs slot_listiter_next
    (wpAny_call_entry slot_listiter_next hit.typeIs entry_listiter_next ?_ (args_listiter_next _))))
  show wpAny _ _ (field (.ref it) 0 >>= _) _ _ s
  refine wpAny_bind (wpAny_field ho hd (x := .ref l) rfl ?_)
  show wpAny _ _ (if (Value.ref l == Value.none) = true then _ else _) _ _ s
  rw [if_neg (show ¬ ((Value.ref l == Value.none) = true) from Bool.false_ne_true)]
  show wpAny _ _ (field (.ref it) 1 >>= _) _ _ s
  refine wpAny_bind (wpAny_field ho hd (x := .int i 0) rfl ?_)
  show wpAny _ _ (seqItems? (.ref l) >>= _) _ _ s
  refine wpAny_bind (wpAny_seqItems hol hdl ?_)
  simp only [Int.toNat_natCast, hx]
  refine wpAny_bind (wpAny_rule (wpAny_bind (wpAny_setField ho hd (by simp) ?_)))
  show wpAny _ _ (newExc (.type "StopIteration") [] >>= _) _ _ _
  refine wpAny_bind ?_
  simp only [newExc, newTuple]
  refine wpAny_bind (wpAny_newObj_type ?_ (by size_fits))
  refine wpAny_bind (m := firstArgMember _ _) (wpAny_of_eq (a := Value.none) (by first | rfl | (simp only [firstArgMember]; rfl)) ?_)
  refine wpAny_newObj_type ?_ (by size_fits)
  have h1' : ∀ (o' : Obj) (f : Obj → Obj), (((s.heap.update it f).push o').get? x1 = some o1) := fun o' f => Heap.get?_push_of_some _ ((Heap.SameBut.update s.heap it f).extBut x1 o1 hne h1)
  refine raiseNew_hot ⟨hh, o1, vs1, Heap.get?_push_of_some _ (h1' _ _), d1, c1⟩ (Nat.ne_of_lt (Heap.lt_size (h1' _ _))) (Heap.get?_push_size _ rfl) rfl (by first | (simp; done) | (simp; omega) | (simp only [Array.size_append]; simp; omega)) ?_
  refine wpAny_bind (wpAny_isInstance (T := "StopIteration") (b := true) ⟨_, Heap.get?_update_self _ (Heap.get?_push_size _ rfl) rfl, rfl⟩ isSubtype_stop ?_)
  refine wpAny_pure (hQ _ fun b o nb e => ?_)
  have e2 := (Heap.SameBut.update s.heap it (Obj.mapFields (·.setIfInBounds 0 Value.none))).extBut b o nb e
  rw [Heap.get?_update_other _ _ (Nat.ne_of_gt (Heap.lt_size (Heap.get?_push_of_some _ e2)))]
  exact Heap.get?_push_of_some _ (Heap.get?_push_of_some _ e2)
/-- the object of a handled exception -/
def CtxAt (x1 : Addr) (h : Heap) : Prop := ∃ (o : Obj) (vs : Array Value), h.get? x1 = some o ∧ o.data = .fields vs ∧ vs[2]? = some .none
theorem walks_listH {x1 : Addr} (hh : A.handled = some (.ref x1)) (I ax : Addr) (hne : ax ≠ I) (hx : x1 ≠ I) (items : Array Value) :
    Walks prog w A I [I, ax, x1] [I] items.size (fun i v => items[i]? = some v) (fun i h => h.IsListIter I ax i ∧ h.IsList ax items ∧ CtxAt x1 h) where
  sub := fun b hb => by simp at hb; simp [hb]
  frame := fun _ _ _ st hk => ⟨st.1.at fun o e => hk I (by simp) o e, st.2.1.at fun o e => hk ax (by simp) o e, let ⟨o, vs, a, b, c⟩ := st.2.2; ⟨o, vs, hk x1 (by simp) o a, b, c⟩⟩
  item := fun i s Q E hi st hQ => by
    refine wpAny_pyNext_list_item st.1 st.2.1 (x := items[i]) (by simp [hi]) fun h' hit' hs' => ?_
    exact hQ _ h' s.toks (by simp [hi]) ⟨hit', st.2.1.extBut hs'.extBut hne, let ⟨o, vs, a, b, c⟩ := st.2.2; ⟨o, vs, hs'.extBut x1 o hx a, b, c⟩⟩ fun b o hb e => hs'.extBut b o (fun h => hb (by simp [h])) e
  done := fun s Q E st hQ => pyNext_list_end_hot ⟨hh, st.2.2⟩ hx st.1 st.2.1 (by simp) fun h' he' => hQ h' s.toks fun b o hb e => he' b o (fun h => hb (by simp [h])) e
  self := fun _ _ _ _ st hQ => wpAny_pyIter_listiter st.1 hQ
end
theorem cr_anyH {X : Cx} (hc : L2H.HotC X) : CallR X (.builtin "any") (rAny X.K) := by
  intro pins s σ H vs us Q I r h
  obtain ⟨a, bs, rfl, hs, q⟩ := h
  obtain ⟨its, rv, hl, _⟩ := I.list hs
  rw [Vals.ref1 r]
  have hb := rv.bls
  obtain ⟨x1, hh, hx⟩ := hc.at I
  refine call_any_walk (iter_any hl.isList fun s₂ e2 st hne => ?_)
  subst e2
  obtain ⟨o1, vs1, h1, d1, c1⟩ := hx
  have lx : x1 < s.heap.objs.size := Heap.lt_size h1
  refine ⟨_, _, _, _, _, _, _, rfl, walks_listH (A := X.A.in1) (x1 := x1) hh _ a hne (Nat.ne_of_lt lx) its.toArray, ⟨st.1, st.2, o1, vs1, Heap.get?_push_of_some _ h1, d1, c1⟩, truth_bools hb, fun h' tk hk => ?_⟩
  refine ⟨.bl _, H, I.kept fun b o eo => hk b o (fun hmem => ?_) (Heap.get?_push_of_some _ eo), ?_, q⟩
  · rcases List.mem_cons.mp hmem with e1 | hmem
    · exact absurd (e1 ▸ Heap.lt_size eo) (Nat.lt_irrefl _)
    · cases hmem
  · show Value.bool _ = Value.bool _
    rw [← L2.any_range, hb, List.size_toArray, List.length_map]
theorem cr_anyHK {X : Cx} {K : PySem.W.Frag} (hc : L2H.HotC X) (h : X.K = K) : CallR X (.builtin "any") (rAny K) := h ▸ cr_anyH hc
/-- a suite's context bears the exception, its context None -/
theorem hot_suite {X : Cx} {a : Addr} {oe : Obj} {cls : Value} {d : Option Addr} {pn : List (Addr × Obj)} (hz : L2N.Zn cls d oe) (hf : ∃ vs, oe.data = .fields vs) : L2H.HotC (X.suite a ((a, oe) :: pn)) := by
  obtain ⟨vs, e⟩ := hf
  exact ⟨(a, oe), ⟨rfl, vs, e, hz.2.2 vs e⟩, List.mem_cons_self⟩
end My
namespace L2
open PySem PySem.Spec PyProof.Rows
section
variable {P : Program} {w : World} {K : PySem.W.Frag} {mg : Str → Option Value} {base : Heap}
/-- as Fun.okX, what is raised has no context -/
theorem Fun.okN {x qual : Str} {st : Stmt} {f : Addr} {fd : FuncData} {N ps : List Str} {k : Nat} {sp : Sp} (F : Fun K x qual st f fd) (S : FnScope N ps (defScope st)) (len : ∀ vs H Q E, sp vs H Q E → vs.length = ps.length)
    (hbody : ∀ (cdv : Value) (A : Around) (outer : List Env) (s : Shared) (H : Hp) (vs : List V) (Q : VK) (E : XK), Room k (A.deeper (envOfC qual (defScope st) s.heap.objs.size f cdv)) → sp vs H Q E →
      ∃ t, PSs (cxOf (L2N.CX P w) P w K mg base N qual (defScope st) f cdv A outer s H E) (defBody st) t ∧ t { nx := fun _ H' => Q .non H', rt := Q } (start N vs) H) : FnOk P w K mg base (L2N.CX P w) (k + 1) f fd ps sp := by
  obtain ⟨oc, od, kV, doc, pm, an, cdv, ct, osl, rfl, lk, hcd⟩ := F.ex
  exact fn_of lk hcd S len fun A outer s H vs Q E hr hsp => hbody cdv A outer s H vs Q E hr hsp
end
end L2
namespace My
open PySem PySem.Spec PyProof.Rows L2
theorem takes0N {X : Cx} : L2N.Takes X (fun _ _ _ _ => False) := fun _ _ x => by
  obtain ⟨_, _, _, _, _, _, _, _, _, _, _, _, _, _, _, _, z⟩ := x
  exact z.elim
theorem passLN {X : Cx} : Passes (L2N.CX X.prog X.w) X E0 := fun _ _ _ _ _ _ _ h => by
  obtain ⟨_, _, _, _, _, _, _, _, _, _, _, _, z⟩ := h
  exact z.elim
end My

/-! ### == and != of two instances of one class with a text's own __eq__ -/
namespace My
open PySem PySem.Spec PyProof.Rows L2
/-- the reading: what the own == promises -/
def rNeI (C : Addr) (sp : Sp) (E : XK) : R2 := fun x y H Q => ∃ (a b dx dy : Addr) (fs gs : List (Str × V)), x = .ref a ∧ y = .ref b ∧ H a = some (.ins C dx fs) ∧ H b = some (.ins C dy gs) ∧
  sp [.ref a, .ref b] H (fun v H' => ∃ r, v = .bl r ∧ Q (.bl (!r)) H') E
def rEqI (C : Addr) (sp : Sp) (E : XK) : R2 := fun x y H Q => ∃ (a b dx dy : Addr) (fs gs : List (Str × V)), x = .ref a ∧ y = .ref b ∧ H a = some (.ins C dx fs) ∧ H b = some (.ins C dy gs) ∧
  sp [.ref a, .ref b] H (fun v H' => ∃ r, v = .bl r ∧ Q (.bl r) H') E
section
variable {prog : Program} {w : World} {A : Around} {E : Value → Shared → Prop} {s : Shared} {K : PySem.W.Frag} {x C f : Addr} {ox : Obj} {od : Option Obj} {b : Value}
theorem call_objNe {Q : Value → Shared → Prop} (hu : A.units + 1 < cLine) (X : K.In s.heap) (I : PySem.W.InstAt s.heap x ox C od) (hm : PySem.W.mroIn K C (.type "object") = some true) (hs : PySem.W.findIn K (.ref C) "__eq__" = some (some (.ref f))) (hf : PySem.W.isFn K (.ref f) = true)
    (h : wpAny (model prog w) A.in1 (call (.ref f) [.ref x, b]) (fun v s' => ∃ r, v = .bool r ∧ Q (.bool (!r)) s') E s) :
    wpAny (model prog w) A (call (.builtin "object.__ne__") [.ref x, b]) Q E s := by
  refine wpAny_call (codeAny_call_builtin F.cmp_object.ne.plain F.cmpEntry_ne (PySem.W.check_slot F.cmpKind_ne F.cmpSplit_ne (I.type.andThen (PySem.W.looks_mroIn X hm)) (F.cmpArgs_ne _ _) ?_))
  unfold Builtin.«object.__ne__»
  repeat (first
    | with_reducible refine wpAny_cRoomFor (show A.in1.units < cLine from hu) ?_
    | (refine wpAny_bind (m := callSpecialIfBound? (.ref x) (Str.ofString "__eq__") [b])
        (PySem.W.ifBound_K X I hs hf (wpAny_mono h (fun r s' hr => by
          obtain ⟨b, rfl, hq⟩ := hr
          repeat (first | exact ⟨_, rfl, hq⟩ | exact hq | exact wpAny_pure hq | exact wpAny_truthy_bool hq | (refine wpAny_bind (m := truthy (.bool _)) (wpAny_truthy_bool ?_)) | wp_step)) fun _ _ e => e)))
    | wp_step)
theorem ifBound_objNe {args : List Value} {Q : Option Value → Shared → Prop} (X : K.In s.heap) (I : PySem.W.InstAt s.heap x ox C od) (hs : PySem.W.findIn K (.ref C) "__ne__" = some (some (.builtin "object.__ne__")))
    (h : wpAny (model prog w) A (call (.builtin "object.__ne__") (.ref x :: args)) (fun v => Q (some v)) E s) : wpAny (model prog w) A (callSpecialIfBound? (.ref x) "__ne__" args) Q E s := by
  simp only [callSpecialIfBound?, bindSpecialIfBound?]
  refine wpAny_holding (wpAny_bind (wpAny_bind (wpAny_bind (I.type.here ((PySem.W.looks_findIn X hs).here ?_)))))
  refine wpAny_bind (wpAny_askSetting (wpAny_ite ?_))
  have fin : wpAny (model prog w) A (call (.builtin "object.__ne__") ([.ref x] ++ args) >>= fun v => pure (some v)) Q E s := wpAny_bind (wpAny_mono h (fun v s' h' => wpAny_pure h') fun _ _ h' => h')
  split
  · exact wpAny_bind (wpAny_of_eq (F.cmp_object.ne.bind _) (wpAny_pure (by exact fin)))
  · exact wpAny_tryCatch (wpAny_bind (wpAny_of_eq (F.cmp_object.ne.bind _) (wpAny_pure (by exact fin))))
/-- != of two instances of one class, by the own __eq__ -/
theorem rc_neI {y : Addr} {oy : Obj} {od' : Option Obj} {Q : Value → Shared → Prop} (hu : A.units + 1 < cLine) (X : K.In s.heap) (I : PySem.W.InstAt s.heap x ox C od) (J : PySem.W.InstAt s.heap y oy C od') (hm : PySem.W.mroIn K C (.type "object") = some true)
    (hs : PySem.W.findIn K (.ref C) "__eq__" = some (some (.ref f))) (hn : PySem.W.findIn K (.ref C) "__ne__" = some (some (.builtin "object.__ne__"))) (hf : PySem.W.isFn K (.ref f) = true)
    (h : wpAny (model prog w) A.in1 (call (.ref f) [.ref x, .ref y]) (fun v s' => ∃ r, v = .bool r ∧ Q (.bool (!r)) s') E s) : wpAny (model prog w) A (richCompare .NotEq (.ref x) (.ref y)) Q E s := by
  have one : wpAny (model prog w) A (tryCompare (.ref x) "__ne__" (.ref y)) (fun r s' => ∃ v, r = some v ∧ Q v s') E s := by
    unfold tryCompare
    refine wpAny_bind (ifBound_objNe X I hn (call_objNe hu X I hm hs hf (wpAny_mono h (fun v s' hv => ?_) fun _ _ e => e)))
    obtain ⟨r, rfl, hq⟩ := hv
    exact ⟨r, rfl, wpAny_pure ⟨_, rfl, hq⟩⟩
  unfold richCompare
  simp only [oneThing_ref]
  refine wpAny_holding (wpAny_bind (wpAny_cRoomFor (by omega) ?_))
  rw [cmpInfo_NotEq]
  refine wpAny_bind (I.type.here (wpAny_bind (J.type.here ?_)))
  rw [show (Value.ref C != Value.ref C) = false from by simp]
  simp only [Bool.false_eq_true, if_false]
  refine wpAny_bind (wpAny_pure ?_)
  simp only [Bool.false_eq_true, if_false]
  refine wpAny_bind (wpAny_mono one (fun r s' z => ?_) fun _ _ e => e)
  obtain ⟨v, rfl, hq⟩ := z
  exact wpAny_pure hq
end
section
variable {X : Cx} {CX : CXT} {n : Nat} {C f : Addr} {fd : FuncData} {ps : List Str} {sp : Sp} {E : XK}
theorem op_neI (F : FnOk X.prog X.w X.K X.mg X.base CX n f fd ps sp) (hr : Room (n + 1) X.A) (hm : PySem.W.mroIn X.K C (.type "object") = some true) (hs : PySem.W.findIn X.K (.ref C) "__eq__" = some (some (.ref f))) (hn : PySem.W.findIn X.K (.ref C) "__ne__" = some (some (.builtin "object.__ne__")))
    (hf : PySem.W.isFn X.K (.ref f) = true) (hb : Binds X.K fd ps []) (hx : Passes CX X E) : OpR X (compareOp .NotEq) (rNeI C sp E) := by
  intro pins s σ H x y u v Q I rx ry h
  obtain ⟨a, b, dx, dy, fs, gs, rfl, rfl, ha, hb', hsp⟩ := h
  cases rx
  cases ry
  obtain ⟨mA, J, _⟩ := ins_get I.hok ha
  obtain ⟨mB, J', _⟩ := ins_get I.hok hb'
  obtain ⟨od, J, _⟩ := J.look
  obtain ⟨od', J', _⟩ := J'.look
  show wpAny (model X.prog X.w) X.A (richCompare .NotEq (.ref a) (.ref b)) (EP X pins σ Q) X.xe s
  refine rc_neI (show X.A.in1.units < cLine from hr.in1.units0) I.kIn J J' hm hs hn hf ?_
  have hl := F.len _ _ _ _ hsp
  have r2 : Vals [V.ref a, V.ref b] [Value.ref a, Value.ref b] := .cons rfl (.cons rfl .nil)
  have e0 : Env0 X.prog X.w X.K X.mg X.base X.A.in1 X.stack s H := have e := I.env0; ⟨e.frames, e.mod, e.bs, e.bsz, e.funs, e.frf, e.hok, e.bare⟩
  refine wpAny_call (codeAny_mono (F.run X.A.in1 X.stack s H ⟨[.ref a, .ref b], []⟩ [.ref a, .ref b] [.ref a, .ref b] _ E hr.in1 e0 (by
    have := hb s [.ref a, .ref b] I.kIn (by simpa using hl)
    simpa using this) r2 hsp) fun r s' hq => ?_)
  cases r with
  | error e => exact hx pins σ H s e s' I hq
  | ok fl =>
    cases fl with
    | ret w =>
      obtain ⟨z, H', I', rz, r, ez, q⟩ := I.after hq
      subst ez
      cases (show w = Value.bool r from rz)
      exact ⟨r, rfl, .bl (!r), H', I', rfl, q⟩
    | next => exact False.elim hq
    | brk => exact False.elim hq
    | cont => exact False.elim hq
theorem op_neIK {K : PySem.W.Frag} (hK : X.K = K) (F : FnOk X.prog X.w K X.mg X.base CX n f fd ps sp) (hr : Room (n + 1) X.A) (hm : PySem.W.mroIn K C (.type "object") = some true) (hs : PySem.W.findIn K (.ref C) "__eq__" = some (some (.ref f))) (hn : PySem.W.findIn K (.ref C) "__ne__" = some (some (.builtin "object.__ne__")))
    (hf : PySem.W.isFn K (.ref f) = true) (hb : Binds K fd ps []) (hx : Passes CX X E) : OpR X (compareOp .NotEq) (rNeI C sp E) := by
  subst hK
  exact op_neI F hr hm hs hn hf hb hx
end
/-- a method of an own class, with its facts -/
structure Mt (K : PySem.W.Frag) (x qual : Str) (st : Stmt) (C : Addr) (ps : List Str) where
  f : Addr
  fd : FuncData
  F : Fun K x qual st f fd
  b : Binds K fd ps []
  s : PySem.W.findIn K (.ref C) x = some (some (.ref f))
  n : PySem.W.isFn K (.ref f) = true
theorem Mt.meth {K : PySem.W.Frag} {x qual : Str} {st : Stmt} {C : Addr} {ps : List Str} (d : Mt K x qual st C ps) : Meth K C x d.f := ⟨d.s, d.n, d.F.kp⟩
def mt_mk {K : PySem.W.Frag} {x qual : Str} {st : Stmt} {C : Addr} {ps : List Str} {f : Addr} {oc : Value} {od an : Option Addr} {osl : Array (Option Value)} {kV doc pm cdv ct : Value}
    (a : PySem.W.findIn K (.ref C) x = some (some (.ref f))) (l : K.lookup f = some ⟨oc, od, .func (PySem.W.fnOf x qual (defArgs st) (defBody st) (defScope st) .none kV doc pm an cdv ct), osl⟩)
    (c : PySem.W.codeIn K cdv qual = true) (k : PySem.W.keepIn K (.ref f) = true) (n : PySem.W.isFn K (.ref f) = true)
    (hb : ∀ (kV doc pm : Value) (an : Option Addr) (cdv ct : Value) (us : List Value), us.length = ps.length → bindArgs (PySem.W.fnOf x qual (defArgs st) (defBody st) (defScope st) .none kV doc pm an cdv ct) ⟨us, []⟩ = pure (ps.zip us)) : Mt K x qual st C ps :=
  ⟨f, _, fun_mk l c k, (fun_mk l c k).binds hb, a, n⟩
end My

/-! ### styles: told values, fields, alike -/
namespace My
open PySem L2
abbrev sX (s : String) : V := .str (Str.ofString s)
def lettersL : List Nat := (Str.ofString "abcdefghijklmnopqrstuvwxyz").cps.toList
def NameOk (l : List Nat) : Prop := 1 ≤ l.length ∧ l.length ≤ 8 ∧ ∀ c ∈ l, c ∈ lettersL
inductive SzAt (H : Hp) : V → Prop
  | non : SzAt H .non
  | cells (n : Nat) : SzAt H (.int (n : Int))
  | part (a : Addr) (n : Nat) (h : H a = some (.tup [sX "part", .int (n : Int)])) : SzAt H (.ref a)
  | tie (a : Addr) (l : List Nat) (sd : String) (m : Int) (hl : NameOk l) (hs : sd = "wide" ∨ sd = "tall") (h : H a = some (.tup [sX "as", .str (sO l), sX sd, .int m])) : SzAt H (.ref a)
def BdAt (v : V) : Prop := v = .non ∨ ∃ n : Nat, v = .int (n : Int)
def CtAt (v : V) : Prop := ∃ n : Nat, v = .int (n : Int)
def RmAt (K : PySem.W.Frag) (H : Hp) (v : V) : Prop := ∃ (a : Addr) (n0 n1 n2 n3 : Nat), v = .ref a ∧ SqT K H a [.int (n0 : Int), .int (n1 : Int), .int (n2 : Int), .int (n3 : Int)]
def stands5 : List String := ["start", "end", "middle", "stretch", "base"]
def StAt (v : V) : Prop := v = .non ∨ ∃ s ∈ stands5, v = sX s
theorem SzAt.same {H H' : Hp} {v : V} (h : SzAt H v) (s : Same H H') : SzAt H' v := by
  cases h with
  | non => exact .non
  | cells n => exact .cells n
  | part a n h => exact .part a n (s _ _ h)
  | tie a l sd m hl hs h => exact .tie a l sd m hl hs (s _ _ h)
/-- a tuple stays where a list is changed -/
theorem tup_but {H H' : Hp} {p a : Addr} {xs zs : List V} (b : But p H H') (hp : H p = some (.lst zs)) (h : H a = some (.tup xs)) : H' a = some (.tup xs) := b.app (by rintro rfl; rw [hp] at h; cases h) h
theorem SzAt.but {H H' : Hp} {v : V} {p : Addr} {zs : List V} (h : SzAt H v) (b : But p H H') (hp : H p = some (.lst zs)) : SzAt H' v := by
  cases h with
  | non => exact .non
  | cells n => exact .cells n
  | part a n h => exact .part a n (tup_but b hp h)
  | tie a l sd m hl hs h => exact .tie a l sd m hl hs (tup_but b hp h)
theorem RmAt.same {K : PySem.W.Frag} {H H' : Hp} {v : V} (h : RmAt K H v) (s : Same H H') : RmAt K H' v := let ⟨a, n0, n1, n2, n3, e, g⟩ := h; ⟨a, n0, n1, n2, n3, e, Same.seqT s g⟩
theorem seqT_but {K : PySem.W.Frag} {H H' : Hp} {p a : Addr} {xs zs : List V} (b : But p H H') (hp : H p = some (.lst zs)) (h : SqT K H a xs) : SqT K H' a xs := by
  rcases h with (h | ⟨o, h⟩) | h
  · exact .inl (.inl (tup_but b hp h))
  · exact .inl (.inr ⟨o, b.app (by rintro rfl; rw [hp] at h; cases h) h⟩)
  · exact .inr h
theorem RmAt.but {K : PySem.W.Frag} {H H' : Hp} {v : V} {p : Addr} {zs : List V} (h : RmAt K H v) (b : But p H H') (hp : H p = some (.lst zs)) : RmAt K H' v := let ⟨a, n0, n1, n2, n3, e, g⟩ := h; ⟨a, n0, n1, n2, n3, e, seqT_but b hp g⟩
theorem RmAt.of {K : PySem.W.Frag} {H : Hp} {a : Addr} {n0 n1 n2 n3 : Nat} (h : H a = some (.tup [.int (n0 : Int), .int (n1 : Int), .int (n2 : Int), .int (n3 : Int)])) : RmAt K H (.ref a) := ⟨a, n0, n1, n2, n3, rfl, sqT h⟩
/-- the fields of a style as its __init__ lays them -/
def styF (w h lw lh mw mh g s r st : V) : List (Str × V) :=
  [("wide", w), ("high", h), ("least_wide", lw), ("least_high", lh), ("most_wide", mw), ("most_high", mh), ("grow", g), ("shrink", s), ("rims", r), ("stand", st)]
/-- all ten values good -/
structure ValsOk (K : PySem.W.Frag) (H : Hp) (w h lw lh mw mh g s r st : V) : Prop where
  w : SzAt H w
  h : SzAt H h
  lw : BdAt lw
  lh : BdAt lh
  mw : BdAt mw
  mh : BdAt mh
  g : CtAt g
  s : CtAt s
  r : RmAt K H r
  st : StAt st
theorem ValsOk.same {K : PySem.W.Frag} {H H' : Hp} {w h lw lh mw mh g s r st : V} (v : ValsOk K H w h lw lh mw mh g s r st) (m : Same H H') : ValsOk K H' w h lw lh mw mh g s r st := ⟨v.w.same m, v.h.same m, v.lw, v.lh, v.mw, v.mh, v.g, v.s, v.r.same m, v.st⟩
/-! #### alike -/
def FlAt (v : V) : Prop := (∃ i, v = .int i) ∨ ∃ s, v = .str s
def AlkAt (K : PySem.W.Frag) (H : Hp) (u v : V) : Prop := (u = v ∧ (v = .non ∨ FlAt v)) ∨ ∃ (a b : Addr) (xs : List V), u = .ref a ∧ v = .ref b ∧ SqT K H a xs ∧ H b = some (.tup xs) ∧ (∀ x ∈ xs, FlAt x) ∧ xs.length ≤ 10
theorem AlkAt.same {K : PySem.W.Frag} {H H' : Hp} {u v : V} (h : AlkAt K H u v) (s : Same H H') : AlkAt K H' u v := h.imp id fun ⟨a, b, xs, e1, e2, h1, h2, h3, h4⟩ => ⟨a, b, xs, e1, e2, Same.seqT s h1, s _ _ h2, h3, h4⟩
theorem AlkAt.but {K : PySem.W.Frag} {H H' : Hp} {u v : V} {p : Addr} {zs : List V} (h : AlkAt K H u v) (b : But p H H') (hp : H p = some (.lst zs)) : AlkAt K H' u v := h.imp id fun ⟨a, c, xs, e1, e2, h1, h2, h3, h4⟩ => ⟨a, c, xs, e1, e2, seqT_but b hp h1, tup_but b hp h2, h3, h4⟩
theorem SzAt.alk {K : PySem.W.Frag} {H : Hp} {v : V} (h : SzAt H v) : AlkAt K H v v := by
  cases h with
  | non => exact .inl ⟨rfl, .inl rfl⟩
  | cells n => exact .inl ⟨rfl, .inr (.inl ⟨_, rfl⟩)⟩
  | part a n h => exact .inr ⟨a, a, _, rfl, rfl, sqT h, h, fun x hx => by
      rcases List.mem_cons.mp hx with rfl | hx
      · exact .inr ⟨_, rfl⟩
      · rw [List.mem_singleton.mp hx]; exact .inl ⟨_, rfl⟩, Nat.le_of_ble_eq_true rfl⟩
  | tie a l sd m hl hs h => exact .inr ⟨a, a, _, rfl, rfl, sqT h, h, fun x hx => by
      rcases List.mem_cons.mp hx with rfl | hx
      · exact .inr ⟨_, rfl⟩
      rcases List.mem_cons.mp hx with rfl | hx
      · exact .inr ⟨_, rfl⟩
      rcases List.mem_cons.mp hx with rfl | hx
      · exact .inr ⟨_, rfl⟩
      · rw [List.mem_singleton.mp hx]; exact .inl ⟨_, rfl⟩, Nat.le_of_ble_eq_true rfl⟩
theorem BdAt.alk {K : PySem.W.Frag} {H : Hp} {v : V} (h : BdAt v) : AlkAt K H v v := by
  rcases h with rfl | ⟨n, rfl⟩
  · exact .inl ⟨rfl, .inl rfl⟩
  · exact .inl ⟨rfl, .inr (.inl ⟨_, rfl⟩)⟩
theorem CtAt.alk {K : PySem.W.Frag} {H : Hp} {v : V} (h : CtAt v) : AlkAt K H v v := by
  obtain ⟨n, rfl⟩ := h
  exact .inl ⟨rfl, .inr (.inl ⟨_, rfl⟩)⟩
theorem StAt.alk {K : PySem.W.Frag} {H : Hp} {v : V} (h : StAt v) : AlkAt K H v v := by
  rcases h with rfl | ⟨s, _, rfl⟩
  · exact .inl ⟨rfl, .inl rfl⟩
  · exact .inl ⟨rfl, .inr (.inr ⟨_, rfl⟩)⟩
theorem fl4 {n0 n1 n2 n3 : Int} : ∀ x ∈ [V.int n0, .int n1, .int n2, .int n3], FlAt x := fun x hx => by
  rcases List.mem_cons.mp hx with rfl | hx
  · exact .inl ⟨_, rfl⟩
  rcases List.mem_cons.mp hx with rfl | hx
  · exact .inl ⟨_, rfl⟩
  rcases List.mem_cons.mp hx with rfl | hx
  · exact .inl ⟨_, rfl⟩
  · rw [List.mem_singleton.mp hx]; exact .inl ⟨_, rfl⟩
/-! #### a comprehension over a text, all the same thing -/
section
variable {g : TG} {tt : TT} {te : TE} {vs : List Nat} {σ : L2.St} {H1 : Hp} {D : Addr} {Qd : Hp → Prop} {l : List Nat}
theorem lcSc (v : V) (hD : H1 D = none) (hz : l.length ≤ 100000)
    (hs : ∀ (i c : Nat) (H' : Hp) (Kt : V → Hp → Prop) (Kf : Hp → Prop), l[i]? = some c → Same H1 H' → (∀ H4, Same H' H4 → Kt v H4) → LcT g tt te vs σ (.str ⟨#[c]⟩) H' Kt Kf)
    (hd : ∀ H, Same H1 H → H D = some (.lst (List.replicate l.length v)) → Qd H) : LcG (Its (sO l)) g tt te vs σ H1 D Qd := by
  refine ⟨fun i m H => m = l.length - i ∧ i ≤ l.length ∧ Same H1 H ∧ H D = some (.lst (List.replicate i v)), ⟨l.length, rfl, Nat.zero_le _, Same.upd0 hD, upd_same⟩, ?_⟩
  rintro i m H ⟨rfl, hi, s, e⟩
  by_cases hlt : i < l.length
  · refine .inr ⟨?_, fun H => Same H1 H ∧ H D = some (.lst (List.replicate (i + 1) v)), fun H' p' => ⟨l.length - (i + 1), by omega, rfl, hlt, p'⟩, fun x H' y => ?_⟩
    · show i < l.toArray.size
      rw [List.size_toArray]; exact hlt
    · obtain ⟨rfl, c, hc, rfl⟩ := y
      have hc : l.toArray[i]? = some c := hc
      rw [List.getElem?_toArray] at hc
      exact hs i c H' _ _ hc s fun H4 s4 => ⟨_, s4 _ _ e, by rw [List.length_replicate, sizeLine_eq]; omega, Same.mut' (s.trans s4) But.refl.upd hD, by rw [upd_same, List.replicate_succ']⟩
  · have ei : i = l.length := by omega
    subst ei
    refine .inl ⟨?_, hd H s e⟩
    show l.toArray.size ≤ l.length
    rw [List.size_toArray]; exact Nat.le_refl _
end
theorem reps_bl (n : Nat) : List.replicate n (V.bl true) = (List.replicate n true).map V.bl := by rw [List.map_replicate]
theorem reps_all (n : Nat) : (List.replicate n true).all id = true := by
  rw [List.all_eq_true]
  intro x hx
  rw [List.eq_of_mem_replicate hx]; rfl
theorem isN_nat (n : Nat) : isN (.int (n : Int)) = true := by
  unfold isN
  simp
theorem styF_put (w h lw lh mw mh g s r st : V) : putF "stand" st (putF "rims" r (putF "shrink" s (putF "grow" g (putF "most_high" mh (putF "most_wide" mw (putF "least_high" lh (putF "least_wide" lw (putF "high" h (putF "wide" w []))))))))) = styF w h lw lh mw mh g s r st := by kernel_rfl
/-! #### ten values in a list -/
def names10 : List Str := ["wide", "high", "least_wide", "least_high", "most_wide", "most_high", "grow", "shrink", "rims", "stand"]
def styL (fs : List V) : List (Str × V) := names10.zip fs
theorem styL_F (w h lw lh mw mh g s r st : V) : styL [w, h, lw, lh, mw, mh, g, s, r, st] = styF w h lw lh mw mh g s r st := rfl
def OkF (K : PySem.W.Frag) (H : Hp) : Nat → V → Prop
  | 0, v => SzAt H v
  | 1, v => SzAt H v
  | 2, v => BdAt v
  | 3, v => BdAt v
  | 4, v => BdAt v
  | 5, v => BdAt v
  | 6, v => CtAt v
  | 7, v => CtAt v
  | 8, v => RmAt K H v
  | _, v => StAt v
def OkL (K : PySem.W.Frag) (H : Hp) (fs : List V) : Prop := fs.length = 10 ∧ ∀ (i : Nat) (v : V), fs[i]? = some v → OkF K H i v
theorem OkF.same {K : PySem.W.Frag} {H H' : Hp} {i : Nat} {v : V} (h : OkF K H i v) (s : Same H H') : OkF K H' i v :=
  match i, h with
  | 0, h => SzAt.same h s
  | 1, h => SzAt.same h s
  | 2, h => h
  | 3, h => h
  | 4, h => h
  | 5, h => h
  | 6, h => h
  | 7, h => h
  | 8, h => RmAt.same h s
  | _ + 9, h => h
theorem OkL.same {K : PySem.W.Frag} {H H' : Hp} {fs : List V} (h : OkL K H fs) (s : Same H H') : OkL K H' fs := ⟨h.1, fun i v e => (h.2 i v e).same s⟩
theorem OkL.vals {K : PySem.W.Frag} {H : Hp} {w h lw lh mw mh g s r st : V} (k : OkL K H [w, h, lw, lh, mw, mh, g, s, r, st]) : ValsOk K H w h lw lh mw mh g s r st :=
  ⟨k.2 0 _ rfl, k.2 1 _ rfl, k.2 2 _ rfl, k.2 3 _ rfl, k.2 4 _ rfl, k.2 5 _ rfl, k.2 6 _ rfl, k.2 7 _ rfl, k.2 8 _ rfl, k.2 9 _ rfl⟩
theorem ten {fs : List V} (h : fs.length = 10) : ∃ w h' lw lh mw mh g s r st, fs = [w, h', lw, lh, mw, mh, g, s, r, st] :=
  match fs, h with
  | [w, h', lw, lh, mw, mh, g, s, r, st], _ => ⟨w, h', lw, lh, mw, mh, g, s, r, st, rfl⟩
def dfltL (U : Addr) : List V := [.non, .non, .non, .non, .non, .non, .int 0, .int 1, .ref U, .non]
theorem dflt_ok {K : PySem.W.Frag} {H : Hp} {U : Addr} (t : ∀ H, SqT K H U [.int 0, .int 0, .int 0, .int 0]) : OkL K H (dfltL U) := by
  refine ⟨rfl, fun i v e => ?_⟩
  match i, e with
  | 0, e => cases e; exact .non
  | 1, e => cases e; exact .non
  | 2, e => cases e; exact .inl rfl
  | 3, e => cases e; exact .inl rfl
  | 4, e => cases e; exact .inl rfl
  | 5, e => cases e; exact .inl rfl
  | 6, e => cases e; exact ⟨0, rfl⟩
  | 7, e => cases e; exact ⟨1, rfl⟩
  | 8, e => cases e; exact ⟨U, 0, 0, 0, 0, rfl, t H⟩
  | 9, e => cases e; exact .inl rfl
  | n + 10, e => cases e
/-- told at some places -/
def mixL (fs ds : List V) (told : List Nat) : List V := (List.range 10).map fun i => if told.contains i then fs.getD i .non else ds.getD i .non
theorem mix_at {fs ds : List V} {told : List Nat} {i : Nat} (h : i < 10) : (mixL fs ds told)[i]? = some (if told.contains i then fs.getD i .non else ds.getD i .non) := by
  unfold mixL
  rw [List.getElem?_map, List.getElem?_range h]; rfl
theorem mix_ok {K : PySem.W.Frag} {H : Hp} {fs ds : List V} {told : List Nat} (hf : OkL K H fs) (hd : OkL K H ds) : OkL K H (mixL fs ds told) := by
  refine ⟨by unfold mixL; rw [List.length_map, List.length_range], fun i v e => ?_⟩
  have hi : i < 10 := by
    have := (List.getElem?_eq_some_iff.mp e).1
    unfold mixL at this
    rwa [List.length_map, List.length_range] at this
  rw [mix_at hi] at e
  cases e
  split
  · exact hf.2 i _ (by rw [List.getD_eq_getElem?_getD, List.getElem?_eq_getElem (by rw [hf.1]; exact hi)]; rfl)
  · exact hd.2 i _ (by rw [List.getD_eq_getElem?_getD, List.getElem?_eq_getElem (by rw [hd.1]; exact hi)]; rfl)
def sp_Style_init (K : PySem.W.Frag) (C : Addr) : Sp := fun vs H Q _ => ∃ (x dx : Addr) (w h lw lh mw mh g s r st : V), vs = [.ref x, w, h, lw, lh, mw, mh, g, s, r, st] ∧ H x = some (.ins C dx []) ∧ ValsOk K H w h lw lh mw mh g s r st ∧ ∀ H', But x H H' → H' x = some (.ins C dx (styF w h lw lh mw mh g s r st)) → Q .non H'
theorem make_same {H : Hp} {x dx : Addr} {o o' : HO} (fx : H x = none) (fdx : H dx = none) (n : dx ≠ x) : Same H (upd (upd H dx o) x o') := fun b u e => by
  rw [upd_ne (ne_of_none e fx), upd_ne (ne_of_none e fdx)]; exact e
theorem mk_style {K : PySem.W.Frag} {H : Hp} {C : Addr} {fs : List V} {Q : VK} {E : XK} (ok : OkL K H fs) (k : ∀ (x dx : Addr) H', Same H H' → H x = none → H' x = some (.ins C dx (styL fs)) → Q (.ref x) H') :
    ∀ x dx, H x = none → H dx = none → dx ≠ x → sp_Style_init K C (.ref x :: fs) (upd (upd H dx (.own x)) x (.ins C dx [])) (fun v H3 => v = .non ∧ Q (.ref x) H3) E := by
  intro x dx fx fdx n
  obtain ⟨w, h, lw, lh, mw, mh, g, s, r, st, rfl⟩ := ten ok.1
  have sm := make_same (o := HO.own x) (o' := HO.ins C dx []) fx fdx n
  exact ⟨x, dx, w, h, lw, lh, mw, mh, g, s, r, st, rfl, upd_same, ok.vals.same sm, fun H' b e => ⟨rfl, k x dx H' (Same.mut' sm b fx) fx e⟩⟩
theorem SzAt.dr {H H' : Hp} {a : Addr} {v : V} (h : SzAt H v) (hs : Src H a) (d : Dr a H H') : SzAt H' v := by
  obtain ⟨t, ht⟩ := hs
  exact h.but d.b ht
theorem RmAt.dr {K : PySem.W.Frag} {H H' : Hp} {a : Addr} {v : V} (h : RmAt K H v) (hs : Src H a) (d : Dr a H H') : RmAt K H' v := by
  obtain ⟨t, ht⟩ := hs
  exact h.but d.b ht
theorem tup_dr {H H' : Hp} {p a : Addr} {xs : List V} (d : Dr p H H') (hs : Src H p) (h : H a = some (.tup xs)) : H' a = some (.tup xs) := by
  obtain ⟨t, ht⟩ := hs
  exact tup_but d.b ht h
theorem four {α : Type} {us : List α} (h : us.length = 4) : ∃ a b c d, us = [a, b, c, d] :=
  match us, h with
  | [a, b, c, d], _ => ⟨a, b, c, d, rfl⟩
theorem mix_one {w h lw lh mw mh g s r st : V} {U : Addr} : ∀ {i : Nat}, i < 10 → mixL [w, h, lw, lh, mw, mh, g, s, r, st] (dfltL U) [i] = (dfltL U).set i ([w, h, lw, lh, mw, mh, g, s, r, st].getD i .non)
  | 0, _ => rfl
  | 1, _ => rfl
  | 2, _ => rfl
  | 3, _ => rfl
  | 4, _ => rfl
  | 5, _ => rfl
  | 6, _ => rfl
  | 7, _ => rfl
  | 8, _ => rfl
  | 9, _ => rfl
  | n + 10, h => absurd h (by omega)
theorem mk_mix {K : PySem.W.Frag} {H : Hp} {C U : Addr} {fs : List V} {Q : VK} {E : XK} (told : List Nat) (ok : OkL K H fs) (t : ∀ H, SqT K H U [.int 0, .int 0, .int 0, .int 0]) (k : ∀ (x dx : Addr) H', Same H H' → H x = none → H' x = some (.ins C dx (styL (mixL fs (dfltL U) told))) → Q (.ref x) H') :
    ∀ x dx, H x = none → H dx = none → dx ≠ x → sp_Style_init K C (.ref x :: mixL fs (dfltL U) told) (upd (upd H dx (.own x)) x (.ins C dx [])) (fun v H3 => v = .non ∧ Q (.ref x) H3) E :=
  mk_style (mix_ok ok (dflt_ok t)) k
theorem sty_at {K : PySem.W.Frag} {H : Hp} {C x dx : Addr} {fs : List V} {R : Hp → Prop} {E : XK} (ok : OkL K H fs) (fx : H x = none) (fdx : H dx = none) (n : dx ≠ x) (k : ∀ H', Same H H' → H' x = some (.ins C dx (styL fs)) → R H') :
    sp_Style_init K C (.ref x :: fs) (upd (upd H dx (.own x)) x (.ins C dx [])) (fun v H3 => v = .non ∧ R H3) E := by
  obtain ⟨w, h, lw, lh, mw, mh, g, s, r, st, rfl⟩ := ten ok.1
  have sm := make_same (o := HO.own x) (o' := HO.ins C dx []) fx fdx n
  exact ⟨x, dx, w, h, lw, lh, mw, mh, g, s, r, st, rfl, upd_same, ok.vals.same sm, fun H' b e => ⟨rfl, k H' (Same.mut' sm b fx) e⟩⟩
end My

/-! ### slices by plain numbers -/
namespace My
open PySem L2
theorem cutV_take (xs : List V) (j : Nat) : cutV xs none (some (j : Int)) = xs.take j := by
  unfold cutV
  rw [HT.sIx_none, HT.sIx_nat, List.drop_zero, Nat.sub_zero]
  by_cases h : j ≤ xs.length
  · rw [Nat.min_eq_left h]
  · rw [Nat.min_eq_right (by omega), List.take_of_length_le (Nat.le_refl _), List.take_of_length_le (by omega)]
theorem cutV_drop (xs : List V) (j : Nat) : cutV xs (some (j : Int)) none = xs.drop j := by
  unfold cutV
  rw [HT.sIx_none, HT.sIx_nat]
  by_cases h : j ≤ xs.length
  · rw [Nat.min_eq_left h, List.take_of_length_le (by rw [List.length_drop]; omega)]
  · rw [Nat.min_eq_right (by omega), List.drop_of_length_le (Nat.le_refl _), List.drop_of_length_le (by omega), List.take_nil]
theorem cutV_mid (xs : List V) (i j : Nat) (h : i ≤ j) : cutV xs (some (i : Int)) (some (j : Int)) = (xs.take j).drop i := by
  unfold cutV
  rw [HT.sIx_nat, HT.sIx_nat]
  by_cases h1 : i ≤ xs.length
  · by_cases h2 : j ≤ xs.length
    · rw [Nat.min_eq_left h1, Nat.min_eq_left h2, List.drop_take]
    · rw [Nat.min_eq_left h1, Nat.min_eq_right (by omega), List.take_of_length_le (by rw [List.length_drop]; omega), List.take_of_length_le (by omega)]
  · rw [Nat.min_eq_right (show xs.length ≤ i by omega), List.drop_of_length_le (Nat.le_refl _), List.take_nil, List.drop_of_length_le (by rw [List.length_take]; omega)]
theorem cutV_init (xs : List V) : cutV xs none (some (-1)) = xs.take (xs.length - 1) := by
  unfold cutV
  have e : HT.sIx xs.length xs.length (some (-1)) = xs.length - 1 := by
    show (if (-1 : Int) < 0 then ((-1 : Int) + (xs.length : Int)).toNat else min (-1 : Int).toNat xs.length) = xs.length - 1
    rw [if_pos (by decide)]; omega
  rw [HT.sIx_none, e, List.drop_zero, Nat.sub_zero]
end My

/-! ### tracks and asks: plain mathematics -/
namespace My
open PySem L2
inductive Tk where
  | cells (n : Int)
  | fit
  | share (k : Int)
  deriving DecidableEq
def Tk.free : Tk → Bool
  | .cells _ => false
  | _ => true
def Tk.told : Tk → Int
  | .cells n => n
  | _ => 0
def Tk.ok : Tk → Prop
  | .cells n => 0 ≤ n
  | .fit => True
  | .share k => 1 ≤ k
def TkAt (H : Hp) (v : V) : Tk → Prop
  | .cells n => v = .int n
  | .fit => v = .str "fit"
  | .share k => ∃ r, v = .ref r ∧ H r = some (.tup [.str "share", .int k])
theorem TkAt.mono {H H' : Hp} {v : V} {t : Tk} (h : TkAt H v t) (s : Same H H') : TkAt H' v t := by
  cases t with
  | cells n => exact h
  | fit => exact h
  | share k => obtain ⟨r, e, g⟩ := h; exact ⟨r, e, s _ _ g⟩
theorem TkAt.but {H H' : Hp} {v : V} {t : Tk} {a : Addr} {xs : List V} (h : TkAt H v t) (g : H a = some (.lst xs)) (b : But a H H') : TkAt H' v t := by
  cases t with
  | cells n => exact h
  | fit => exact h
  | share k => obtain ⟨r, e, g2⟩ := h; exact ⟨r, e, b.app (fun z => by rw [z, g] at g2; cases g2) g2⟩
/-- an item's place, and what stands there -/
def TksAt (H : Hp) (vs : List V) (ts : List Tk) : Prop := vs.length = ts.length ∧ ∀ (i : Nat) (v : V) (t : Tk), vs[i]? = some v → ts[i]? = some t → TkAt H v t
theorem TksAt.mono {H H' : Hp} {vs : List V} {ts : List Tk} (h : TksAt H vs ts) (s : Same H H') : TksAt H' vs ts := ⟨h.1, fun i v t a b => (h.2 i v t a b).mono s⟩
theorem TksAt.but {H H' : Hp} {vs : List V} {ts : List Tk} {a : Addr} {xs : List V} (h : TksAt H vs ts) (g : H a = some (.lst xs)) (b : But a H H') : TksAt H' vs ts := ⟨h.1, fun i v t x y => (h.2 i v t x y).but g b⟩
theorem TksAt.at {H : Hp} {vs : List V} {ts : List Tk} (h : TksAt H vs ts) {i : Nat} {t : Tk} (e : ts[i]? = some t) : ∃ v, vs[i]? = some v ∧ TkAt H v t := by
  have hi := (List.getElem?_eq_some_iff.mp e).1
  have l := h.1
  exact ⟨vs[i], List.getElem?_eq_getElem (by omega), h.2 i _ t (List.getElem?_eq_getElem (by omega)) e⟩
theorem TksAt.at' {H : Hp} {vs : List V} {ts : List Tk} (h : TksAt H vs ts) {i : Nat} {v : V} (e : vs[i]? = some v) : ∃ t, ts[i]? = some t ∧ TkAt H v t := by
  have hi := (List.getElem?_eq_some_iff.mp e).1
  have l := h.1
  exact ⟨ts[i], List.getElem?_eq_getElem (by omega), h.2 i v _ e (List.getElem?_eq_getElem (by omega))⟩
/-! #### how much tracks grow -/
def tkF (ts : List Tk) (i : Nat) : Bool := match ts[i]? with
  | some t => t.free
  | none => false
def freeL (ts : List Tk) (f m : Nat) : List Nat := ((List.range m).map fun k => f + k).filter (tkF ts)
theorem freeL_nodup (ts : List Tk) (f m : Nat) : (freeL ts f m).Nodup := by
  unfold freeL
  refine List.Pairwise.filter _ ?_
  have := List.nodup_range (n := m)
  exact (List.pairwise_map.mpr (this.imp fun h => by omega))
theorem freeL_mem {ts : List Tk} {f m i : Nat} : i ∈ freeL ts f m ↔ f ≤ i ∧ i < f + m ∧ tkF ts i = true := by
  unfold freeL
  rw [List.mem_filter, List.mem_map]
  constructor
  · rintro ⟨⟨k, hk, rfl⟩, h⟩
    have := List.mem_range.mp hk
    exact ⟨by omega, by omega, h⟩
  · rintro ⟨h1, h2, h3⟩
    exact ⟨⟨i - f, List.mem_range.mpr (by omega), by omega⟩, h3⟩
def partA (lack : Int) (L j : Nat) : Int := lack * ((j : Int) + 1) / (L : Int) - lack * (j : Int) / (L : Int)
def sliceSum (ss : List Int) (f m : Nat) : Int := ((ss.take (f + m)).drop f).sum
/-- what an ask deals to a track -/
def pA (ts : List Tk) (ss : List Int) (f m : Nat) (wanted : Int) (i : Nat) : Int :=
  if i ∈ freeL ts f m ∧ 0 < wanted - sliceSum ss f m then partA (wanted - sliceSum ss f m) (freeL ts f m).length ((freeL ts f m).idxOf i) else 0
theorem partA_nonneg {lack : Int} {L j : Nat} (h : 0 ≤ lack) (hL : 0 < L) : 0 ≤ partA lack L j := by
  unfold partA
  have h1 : lack * (j : Int) ≤ lack * ((j : Int) + 1) := Int.mul_le_mul_of_nonneg_left (by omega) h
  have h2 : lack * (j : Int) / (L : Int) ≤ lack * ((j : Int) + 1) / (L : Int) := Int.ediv_le_ediv (by omega) h1
  omega
theorem pA_nonneg (ts : List Tk) (ss : List Int) (f m : Nat) (wanted : Int) (i : Nat) : 0 ≤ pA ts ss f m wanted i := by
  unfold pA
  split
  · next h => exact partA_nonneg (Int.le_of_lt h.2) (List.length_pos_of_mem h.1)
  · exact Int.le_refl 0
/-- the grown ones, by places -/
def growM (n : Nat) (ts : List Tk) (ss g : List Int) (f m : Nat) (wanted : Int) : List Int := (List.range n).map fun i => max (wAt g i) (pA ts ss f m wanted i)
theorem growM_len {n : Nat} {ts : List Tk} {ss g : List Int} {f m : Nat} {wanted : Int} : (growM n ts ss g f m wanted).length = n := by unfold growM; rw [List.length_map, List.length_range]
theorem growM_at {n : Nat} {ts : List Tk} {ss g : List Int} {f m : Nat} {wanted : Int} {i : Nat} (hi : i < n) : wAt (growM n ts ss g f m wanted) i = max (wAt g i) (pA ts ss f m wanted i) := by
  unfold growM wAt
  rw [List.getD_eq_getElem?_getD, List.getElem?_map, List.getElem?_range hi]; rfl
/-- behind the first p places of the free ones -/
def growP (ts : List Tk) (ss g : List Int) (f m : Nat) (wanted : Int) (p : Nat) (i : Nat) : Int :=
  if i ∈ (freeL ts f m).take p then max (wAt g i) (partA (wanted - sliceSum ss f m) (freeL ts f m).length ((freeL ts f m).idxOf i)) else wAt g i
theorem growP_zero {ts : List Tk} {ss g : List Int} {f m : Nat} {wanted : Int} (i : Nat) : growP ts ss g f m wanted 0 i = wAt g i := by
  unfold growP; simp
theorem growP_end {ts : List Tk} {ss g : List Int} {f m : Nat} {wanted : Int} {i : Nat} (hl : 0 < wanted - sliceSum ss f m) (hg : 0 ≤ wAt g i) : growP ts ss g f m wanted (freeL ts f m).length i = max (wAt g i) (pA ts ss f m wanted i) := by
  unfold growP pA
  rw [List.take_length]
  by_cases h : i ∈ freeL ts f m
  · rw [if_pos h, if_pos ⟨h, hl⟩]
  · rw [if_neg h, if_neg (fun z => h z.1)]; omega
theorem growP_skip {ts : List Tk} {ss g : List Int} {f m : Nat} {wanted : Int} {i : Nat} (hl : ¬ 0 < wanted - sliceSum ss f m) (hg : 0 ≤ wAt g i) : wAt g i = max (wAt g i) (pA ts ss f m wanted i) := by
  unfold pA
  rw [if_neg (fun z => hl z.2)]; omega
theorem take_succ_mem {l : List Nat} {p c i : Nat} (h : l[p]? = some c) : i ∈ l.take (p + 1) ↔ i ∈ l.take p ∨ i = c := by
  rw [List.take_add_one, h]; simp
theorem idxOf_at : ∀ {l : List Nat}, l.Nodup → ∀ {p c : Nat}, l[p]? = some c → l.idxOf c = p
  | [], _, _, _, h => by simp at h
  | x :: l, _, 0, c, h => by
    have : x = c := by simpa using h
    subst this
    rw [List.idxOf_cons_self]
  | x :: l, hn, p + 1, c, h => by
    have h : l[p]? = some c := by simpa using h
    have hne : x ≠ c := fun e => (List.nodup_cons.mp hn).1 (by rw [e]; exact List.mem_of_getElem? h)
    rw [List.idxOf_cons, idxOf_at (List.nodup_cons.mp hn).2 h]
    have e : (x == c) = false := beq_eq_false_iff_ne.mpr hne
    rw [e]; rfl
theorem not_mem_take {l : List Nat} (hn : l.Nodup) {p c : Nat} (h : l[p]? = some c) : c ∉ l.take p := fun hm => by
  obtain ⟨j, hj, e⟩ := List.getElem_of_mem hm
  rw [List.length_take] at hj
  rw [List.getElem_take] at e
  have h1 : l[j]? = some c := by rw [List.getElem?_eq_getElem (by omega), e]
  have := idxOf_at hn h1
  have := idxOf_at hn h
  omega
theorem growP_succ {ts : List Tk} {ss g : List Int} {f m : Nat} {wanted : Int} {p c : Nat} (h : (freeL ts f m)[p]? = some c) (i : Nat) :
    growP ts ss g f m wanted (p + 1) i = if i = c then max (growP ts ss g f m wanted p c) (partA (wanted - sliceSum ss f m) (freeL ts f m).length p) else growP ts ss g f m wanted p i := by
  have hn := freeL_nodup ts f m
  unfold growP
  by_cases hi : i = c
  · subst hi
    rw [if_pos ((take_succ_mem h).mpr (.inr rfl)), if_pos rfl, if_neg (not_mem_take hn h), idxOf_at hn h]
  · rw [if_neg hi]
    by_cases hm : i ∈ (freeL ts f m).take p
    · rw [if_pos ((take_succ_mem h).mpr (.inl hm)), if_pos hm]
    · rw [if_neg (fun z => by rcases (take_succ_mem h).mp z with z | z; exact hm z; exact hi z), if_neg hm]
/-! #### the steps -/
abbrev Ask3 := Nat × Nat × Int
def AskAt (H : Hp) (v : V) (q : Ask3) : Prop := ∃ r, v = .ref r ∧ H r = some (.tup [.int (q.1 : Int), .int (q.2.1 : Int), .int q.2.2])
theorem AskAt.mono {H H' : Hp} {v : V} {q : Ask3} (h : AskAt H v q) (s : Same H H') : AskAt H' v q := let ⟨r, e, g⟩ := h; ⟨r, e, s _ _ g⟩
def AsksAt (H : Hp) (vs : List V) (qs : List Ask3) : Prop := vs.length = qs.length ∧ ∀ (i : Nat) (v : V) (q : Ask3), vs[i]? = some v → qs[i]? = some q → AskAt H v q
theorem AsksAt.mono {H H' : Hp} {vs : List V} {qs : List Ask3} (h : AsksAt H vs qs) (s : Same H H') : AsksAt H' vs qs := ⟨h.1, fun i v t a b => (h.2 i v t a b).mono s⟩
theorem AsksAt.at' {H : Hp} {vs : List V} {qs : List Ask3} (h : AsksAt H vs qs) {i : Nat} {v : V} (e : vs[i]? = some v) : ∃ q, qs[i]? = some q ∧ AskAt H v q := by
  have hi := (List.getElem?_eq_some_iff.mp e).1
  have l := h.1
  exact ⟨qs[i], List.getElem?_eq_getElem (by omega), h.2 i v _ e (List.getElem?_eq_getElem (by omega))⟩
/-- an ask that a grid of n tracks takes -/
def AskOk (n : Nat) (q : Ask3) : Prop := 1 ≤ q.2.1 ∧ q.1 + q.2.1 ≤ n ∧ 0 ≤ q.2.2
def grow1 (n : Nat) (ts : List Tk) (gap : Int) (ss : List Int) (many : Nat) (g : List Int) (q : Ask3) : List Int :=
  if q.2.1 = many then growM n ts ss g q.1 q.2.1 (q.2.2 - gap * ((many : Int) - 1)) else g
def grownM (ts : List Tk) (qs : List Ask3) (gap : Int) (ss : List Int) (many : Nat) : List Int := qs.foldl (grow1 ts.length ts gap ss many) (List.replicate ts.length 0)
def stepM (ts : List Tk) (qs : List Ask3) (gap : Int) (ss : List Int) (many : Nat) : List Int := (List.range ts.length).map fun i => wAt ss i + wAt (grownM ts qs gap ss many) i
def trackM (ts : List Tk) (qs : List Ask3) (gap : Int) : List Int := (List.range ts.length).foldl (fun s k => stepM ts qs gap s (k + 1)) (ts.map Tk.told)
theorem stepM_len {ts : List Tk} {qs : List Ask3} {gap : Int} {ss : List Int} {many : Nat} : (stepM ts qs gap ss many).length = ts.length := by unfold stepM; rw [List.length_map, List.length_range]
theorem stepM_at {ts : List Tk} {qs : List Ask3} {gap : Int} {ss : List Int} {many i : Nat} (hi : i < ts.length) : wAt (stepM ts qs gap ss many) i = wAt ss i + wAt (grownM ts qs gap ss many) i := by
  unfold stepM
  conv => lhs; unfold wAt
  rw [List.getD_eq_getElem?_getD, List.getElem?_map, List.getElem?_range hi]; rfl
def stepsM (ts : List Tk) (qs : List Ask3) (gap : Int) (k : Nat) : List Int := (List.range k).foldl (fun s k => stepM ts qs gap s (k + 1)) (ts.map Tk.told)
theorem stepsM_succ (ts : List Tk) (qs : List Ask3) (gap : Int) (k : Nat) : stepsM ts qs gap (k + 1) = stepM ts qs gap (stepsM ts qs gap k) (k + 1) := by
  unfold stepsM
  rw [List.range_succ, List.foldl_append]; rfl
theorem stepsM_len (ts : List Tk) (qs : List Ask3) (gap : Int) : ∀ k, (stepsM ts qs gap k).length = ts.length
  | 0 => by unfold stepsM; simp
  | k + 1 => by rw [stepsM_succ]; exact stepM_len
theorem grow1_len {n : Nat} {ts : List Tk} {gap : Int} {ss : List Int} {many : Nat} {g : List Int} {q : Ask3} (h : g.length = n) : (grow1 n ts gap ss many g q).length = n := by
  unfold grow1
  split
  · exact growM_len
  · exact h
theorem grown_len {n : Nat} {ts : List Tk} {gap : Int} {ss : List Int} {many : Nat} : ∀ (qs : List Ask3) (g : List Int), g.length = n → (qs.foldl (grow1 n ts gap ss many) g).length = n
  | [], g, h => h
  | q :: qs, g, h => grown_len qs _ (grow1_len h)
/-- the greatest of x and some more -/
def maxF (x : Int) (l : List Int) : Int := l.foldl max x
theorem maxF_ge {x : Int} : ∀ {l : List Int}, x ≤ maxF x l
  | [] => Int.le_refl _
  | y :: l => Int.le_trans (show x ≤ max x y by omega) (maxF_ge (l := l))
theorem maxF_all {y : Int} : ∀ {l : List Int} {x : Int}, y ∈ l → y ≤ maxF x l
  | z :: l, x, h => by
    rcases List.mem_cons.mp h with rfl | h
    · exact Int.le_trans (show y ≤ max x y by omega) (maxF_ge (l := l))
    · exact maxF_all (l := l) h
theorem maxF_mem : ∀ {l : List Int} {x : Int}, maxF x l = x ∨ maxF x l ∈ l
  | [], x => .inl rfl
  | y :: l, x => by
    rcases maxF_mem (l := l) (x := max x y) with h | h
    · by_cases hxy : x ≤ y
      · right; show maxF (max x y) l ∈ y :: l
        rw [h, Int.max_eq_right hxy]; exact List.mem_cons_self ..
      · left; show maxF (max x y) l = x
        rw [h]; omega
    · right; exact List.mem_cons_of_mem _ h
theorem maxF_uniq {x : Int} {l : List Int} {m : Int} (h1 : x ≤ m) (h2 : ∀ y ∈ l, y ≤ m) (h3 : m = x ∨ m ∈ l) : m = maxF x l := by
  have a : maxF x l ≤ m := by
    rcases maxF_mem (l := l) (x := x) with h | h
    · omega
    · exact h2 _ h
  have b : m ≤ maxF x l := by
    rcases h3 with h | h
    · rw [h]; exact maxF_ge
    · exact maxF_all h
  omega
theorem maxF_perm {x : Int} {l l' : List Int} (h : ∀ y, y ∈ l ↔ y ∈ l') : maxF x l = maxF x l' :=
  maxF_uniq maxF_ge (fun y hy => maxF_all ((h y).mpr hy)) (maxF_mem.imp id fun z => (h _).mp z)
/-- what all asks of one many deal to a track -/
def dealsA (ts : List Tk) (qs : List Ask3) (gap : Int) (ss : List Int) (many i : Nat) : List Int := (qs.filter fun q => decide (q.2.1 = many)).map fun q => pA ts ss q.1 q.2.1 (q.2.2 - gap * ((many : Int) - 1)) i
theorem grown_at {n : Nat} {ts : List Tk} {gap : Int} {ss : List Int} {many i : Nat} (hi : i < n) : ∀ (qs : List Ask3) (g : List Int), g.length = n → wAt (qs.foldl (grow1 n ts gap ss many) g) i = maxF (wAt g i) (dealsA ts qs gap ss many i)
  | [], g, h => rfl
  | q :: qs, g, h => by
    show wAt (qs.foldl _ (grow1 n ts gap ss many g q)) i = _
    rw [grown_at hi qs _ (grow1_len h)]
    unfold dealsA
    rw [List.filter_cons]
    by_cases e : q.2.1 = many
    · rw [if_pos (decide_eq_true e), List.map_cons]
      unfold grow1
      rw [if_pos e, growM_at hi]; rfl
    · rw [if_neg (by simpa using e)]
      unfold grow1
      rw [if_neg e]
theorem grownM_at {ts : List Tk} {qs : List Ask3} {gap : Int} {ss : List Int} {many i : Nat} (hi : i < ts.length) : wAt (grownM ts qs gap ss many) i = maxF 0 (dealsA ts qs gap ss many i) := by
  unfold grownM
  rw [grown_at hi _ _ List.length_replicate]
  congr 1
  unfold wAt
  rw [List.getD_eq_getElem?_getD, List.getElem?_replicate, if_pos hi]; rfl
theorem list_ext_wAt {xs ys : List Int} (hl : xs.length = ys.length) (h : ∀ i, i < xs.length → wAt xs i = wAt ys i) : xs = ys := by
  apply List.ext_getElem hl
  intro i h1 h2
  have := h i h1
  unfold wAt at this
  rw [List.getD_eq_getElem?_getD, List.getD_eq_getElem?_getD, List.getElem?_eq_getElem h1, List.getElem?_eq_getElem h2] at this
  exact this
theorem told_at {ts : List Tk} {i : Nat} {t : Tk} (h : ts[i]? = some t) : wAt (ts.map Tk.told) i = t.told := by
  unfold wAt
  rw [List.getD_eq_getElem?_getD, List.getElem?_map, h]; rfl
/-! #### asks of one track -/
theorem freeL_one (ts : List Tk) (f : Nat) : freeL ts f 1 = if tkF ts f = true then [f] else [] := by
  unfold freeL
  show List.filter (tkF ts) [f + 0] = _
  rw [Nat.add_zero, List.filter_cons]; rfl
theorem slice_one {ss : List Int} {f : Nat} (h : f < ss.length) : sliceSum ss f 1 = wAt ss f := by
  unfold sliceSum wAt
  rw [List.getD_eq_getElem?_getD, List.getElem?_eq_getElem h, List.drop_take, Nat.add_sub_cancel_left, List.drop_eq_getElem_cons h]
  simp only [List.take_succ_cons, List.take_zero, List.sum_cons, List.sum_nil, Int.add_zero, Option.getD_some]
/-- with asks of one track alone -/
theorem track_single {ts : List Tk} {qs : List Ask3} {gap : Int} (hq : ∀ q ∈ qs, q.2.1 = 1 ∧ q.1 < ts.length) {i : Nat} {t : Tk} (ht : ts[i]? = some t) :
    wAt (trackM ts qs gap) i = if t.free = true then maxF 0 ((qs.filter fun q => decide (q.1 = i)).map fun q => q.2.2) else t.told := by
  have hi := (List.getElem?_eq_some_iff.mp ht).1
  have hf : tkF ts i = t.free := by unfold tkF; rw [ht]
  have later : ∀ (ss : List Int) (k : Nat), wAt (stepM ts qs gap ss (k + 2)) i = wAt ss i := fun ss k => by
    rw [stepM_at hi, grownM_at hi]
    have : dealsA ts qs gap ss (k + 2) i = [] := by
      unfold dealsA
      rw [List.map_eq_nil_iff, List.filter_eq_nil_iff]
      intro q hq'
      have := (hq q hq').1
      simp; omega
    rw [this]
    show wAt ss i + 0 = _
    omega
  have steps : ∀ k, wAt (stepsM ts qs gap (k + 1)) i = wAt (stepsM ts qs gap 1) i := fun k => by
    induction k with
    | zero => rfl
    | succ k ih => rw [stepsM_succ, later, ih]
  have e : trackM ts qs gap = stepsM ts qs gap ts.length := rfl
  obtain ⟨m, hm⟩ : ∃ m, ts.length = m + 1 := ⟨ts.length - 1, by omega⟩
  rw [e, hm, steps]
  have e1 : stepsM ts qs gap 1 = stepM ts qs gap (ts.map Tk.told) 1 := rfl
  rw [e1, stepM_at hi, grownM_at hi, told_at ht]
  have hpa : ∀ q ∈ qs, pA ts (ts.map Tk.told) q.1 q.2.1 (q.2.2 - gap * (((1 : Nat) : Int) - 1)) i = if q.1 = i ∧ t.free = true ∧ 0 < q.2.2 then q.2.2 else 0 := fun q hq' => by
    obtain ⟨h1, h2⟩ := hq q hq'
    unfold pA
    rw [h1, freeL_one, slice_one (by rw [List.length_map]; exact h2)]
    have e0 : gap * (((1 : Nat) : Int) - 1) = 0 := by simp
    rw [e0]
    by_cases hqi : q.1 = i
    · rw [hqi, hf, told_at ht]
      by_cases hfr : t.free = true
      · have h0 : t.told = 0 := by cases t <;> simp_all [Tk.free, Tk.told]
        rw [h0, if_pos hfr]
        by_cases hs : 0 < q.2.2
        · rw [if_pos ⟨by simp, by omega⟩, if_pos ⟨rfl, hfr, hs⟩]
          unfold partA
          simp
        · rw [if_neg (fun z => hs (by omega)), if_neg (fun z => hs z.2.2)]
      · rw [if_neg hfr, if_neg (by simp), if_neg (fun z => hfr z.2.1)]
    · rw [if_neg (fun z => ?_), if_neg (fun z => hqi z.1)]
      have := z.1
      split at this
      · exact hqi (List.mem_singleton.mp this).symm
      · cases this
  by_cases hfr : t.free = true
  · rw [if_pos hfr]
    have h0 : t.told = 0 := by cases t <;> simp_all [Tk.free, Tk.told]
    rw [h0, Int.zero_add]
    refine (maxF_uniq maxF_ge (fun y hy => ?_) ?_)
    · obtain ⟨q, hq1, rfl⟩ := List.mem_map.mp hy
      obtain ⟨hq2, hq3⟩ := List.mem_filter.mp hq1
      have hq3 := of_decide_eq_true hq3
      by_cases hs : 0 < q.2.2
      · refine maxF_all ?_
        unfold dealsA
        refine List.mem_map.mpr ⟨q, List.mem_filter.mpr ⟨hq2, decide_eq_true (hq q hq2).1⟩, ?_⟩
        rw [hpa q hq2, if_pos ⟨hq3, hfr, hs⟩]
      · exact Int.le_trans (by omega) maxF_ge
    · rcases maxF_mem (x := 0) (l := dealsA ts qs gap (ts.map Tk.told) 1 i) with h | h
      · exact .inl h
      · unfold dealsA at h
        obtain ⟨q, hq1, e2⟩ := List.mem_map.mp h
        obtain ⟨hq2, _⟩ := List.mem_filter.mp hq1
        rw [hpa q hq2] at e2
        by_cases hc : q.1 = i ∧ t.free = true ∧ 0 < q.2.2
        · rw [if_pos hc] at e2
          right
          show maxF 0 (List.map _ _) ∈ _
          rw [← e2]
          exact List.mem_map.mpr ⟨q, List.mem_filter.mpr ⟨hq2, decide_eq_true hc.1⟩, rfl⟩
        · rw [if_neg hc] at e2
          left
          unfold dealsA
          exact e2.symm
  · rw [if_neg hfr]
    have : maxF 0 (dealsA ts qs gap (ts.map Tk.told) 1 i) = 0 := by
      symm
      refine maxF_uniq (Int.le_refl 0) (fun y hy => ?_) (.inl rfl)
      unfold dealsA at hy
      obtain ⟨q, hq1, rfl⟩ := List.mem_map.mp hy
      obtain ⟨hq2, _⟩ := List.mem_filter.mp hq1
      rw [hpa q hq2, if_neg (fun z => hfr z.2.1)]
      exact Int.le_refl 0
    rw [this]; omega
/-! #### as data -/
def tkD : Tk → PyData
  | .cells n => .int n
  | .fit => .str "fit"
  | .share k => .tuple [.str "share", .int k]
def askD (q : Ask3) : PyData := .tuple [.int (q.1 : Int), .int (q.2.1 : Int), .int q.2.2]
section
variable {K : PySem.W.Frag} {H : Hp}
theorem dp_tk {v : V} {t : Tk} (h : TkAt H v t) : Dp K H v (tkD t) := by
  cases t with
  | cells n =>
    have e : v = .int n := h
    subst e; exact .int n
  | fit =>
    have e : v = .str "fit" := h
    subst e; exact .str _
  | share k =>
    obtain ⟨r, rfl, g⟩ := h
    exact .tup (sqT g) (.cons (.str _) (.cons (.int _) .nil))
theorem dpAll_of {α : Type} {f : α → PyData} : ∀ {vs : List V} {xs : List α}, vs.length = xs.length → (∀ (i : Nat) (v : V) (x : α), vs[i]? = some v → xs[i]? = some x → Dp K H v (f x)) → DpAll K H vs (xs.map f)
  | [], [], _, _ => .nil
  | [], _ :: _, h, _ => by cases h
  | _ :: _, [], h, _ => by cases h
  | v :: vs, x :: xs, h, k => .cons (k 0 v x rfl rfl) (dpAll_of (by simpa using h) fun i w y a b => k (i + 1) w y a b)
theorem dp_tks {vs : List V} {ts : List Tk} (h : TksAt H vs ts) : DpAll K H vs (ts.map tkD) := dpAll_of h.1 fun i v t a b => dp_tk (h.2 i v t a b)
theorem dp_ask {v : V} {q : Ask3} (h : AskAt H v q) : Dp K H v (askD q) := by
  obtain ⟨r, rfl, g⟩ := h
  exact .tup (sqT g) (.cons (.int _) (.cons (.int _) (.cons (.int _) .nil)))
theorem dp_asks {vs : List V} {qs : List Ask3} (h : AsksAt H vs qs) : DpAll K H vs (qs.map askD) := dpAll_of h.1 fun i v t a b => dp_ask (h.2 i v t a b)
end
theorem tkD_can (t : Tk) : (tkD t).canLay0 = true ∧ (tkD t).depth ≤ 1 := by cases t <;> simp [tkD, PyData.canLay0, PyData.canLayAll0, PyData.depth, PyData.depthAll] <;> decide +kernel
theorem tkD_nob (t : Tk) : nob (tkD t) = true := by cases t <;> simp [tkD, nob, nobAll]
theorem askD_can (q : Ask3) : (askD q).canLay0 = true ∧ (askD q).depth ≤ 1 := by simp [askD, PyData.canLay0, PyData.canLayAll0, PyData.depth, PyData.depthAll]
theorem askD_nob (q : Ask3) : nob (askD q) = true := by simp [askD, nob, nobAll]
theorem tks_shaped (ts : List Tk) : SeqAt.shaped (.list (ts.map tkD)) = true := shaped_map (m := 1) (by decide) (fun t => (tkD_can t).1) (fun t => (tkD_can t).2) ts
theorem asks_shaped (qs : List Ask3) : SeqAt.shaped (.list (qs.map askD)) = true := shaped_map (m := 1) (by decide) (fun t => (askD_can t).1) (fun t => (askD_can t).2) qs
/-- a thing's kind -/
def Tk.ty : Tk → String
  | .cells _ => "int"
  | .fit => "str"
  | .share _ => "tuple"
theorem TkAt.t7 {H : Hp} {v : V} {t : Tk} (h : TkAt H v t) : Ty7 H v t.ty := by
  cases t with
  | cells n =>
    have e : v = .int n := h
    subst e; exact .int n
  | fit =>
    have e : v = .str "fit" := h
    subst e; exact .str _
  | share k =>
    obtain ⟨r, rfl, g⟩ := h
    exact .tup g
theorem TkAt.isI {H : Hp} {v : V} {t : Tk} (h : TkAt H v t) : isI v = !t.free := by
  cases t with
  | cells n =>
    have e : v = .int n := h
    subst e; rfl
  | fit =>
    have e : v = .str "fit" := h
    subst e; rfl
  | share k =>
    obtain ⟨r, rfl, g⟩ := h
    rfl
theorem free_nats {ts : List Tk} {f m : Nat} : ((List.range m).filter fun i => tkF ts (f + i)).map (fun i : Nat => V.int ((f : Int) + (i : Int))) = natsV (freeL ts f m) := by
  unfold freeL natsV
  rw [List.filter_map, List.map_map]
  refine List.map_congr_left fun i _ => ?_
  show _ = V.int ((f + i : Nat) : Int)
  rw [Int.natCast_add]
theorem cut_ints (ss : List Int) (f m : Nat) : cutV (ss.map V.int) (some (f : Int)) (some ((f : Int) + (m : Int))) = ((ss.take (f + m)).drop f).map V.int := by
  rw [← Int.natCast_add, cutV_mid _ _ _ (by omega), ← List.map_take, ← List.map_drop]
theorem growM_skip {n : Nat} {ts : List Tk} {ss g : List Int} {f m : Nat} {wanted : Int} (hl : ¬ 0 < wanted - sliceSum ss f m) (hg : ∀ z ∈ g, 0 ≤ z) (lg : g.length = n) : growM n ts ss g f m wanted = g := by
  refine list_ext_wAt (by rw [growM_len, lg]) fun i hi => ?_
  rw [growM_len] at hi
  rw [growM_at hi]
  exact (growP_skip hl (hg _ (wAt_mem (by omega)))).symm
abbrev growL (n : Nat) (ts : List Tk) (ss g : List Int) (f m : Nat) (wanted : Int) (p : Nat) : List Int := (List.range n).map (growP ts ss g f m wanted p)
theorem growL_zero {n : Nat} {ts : List Tk} {ss g : List Int} {f m : Nat} {wanted : Int} (lg : g.length = n) : growL n ts ss g f m wanted 0 = g := by
  refine list_ext_wAt (by rw [List.length_map, List.length_range, lg]) fun i hi => ?_
  rw [List.length_map, List.length_range] at hi
  unfold wAt
  rw [List.getD_eq_getElem?_getD, List.getElem?_map, range_get hi]
  show growP ts ss g f m wanted 0 i = _
  rw [growP_zero]; rfl
theorem growL_end {n : Nat} {ts : List Tk} {ss g : List Int} {f m : Nat} {wanted : Int} (hl : 0 < wanted - sliceSum ss f m) (hg : ∀ z ∈ g, 0 ≤ z) (lg : g.length = n) : growL n ts ss g f m wanted (freeL ts f m).length = growM n ts ss g f m wanted := by
  unfold growL growM
  refine List.map_congr_left fun i hi => ?_
  have hi := List.mem_range.mp hi
  exact growP_end hl (hg _ (wAt_mem (by omega)))
theorem growL_at {n : Nat} {ts : List Tk} {ss g : List Int} {f m : Nat} {wanted : Int} {p c : Nat} (hc : c < n) : ((growL n ts ss g f m wanted p).map V.int)[c]? = some (.int (growP ts ss g f m wanted p c)) := by
  rw [List.getElem?_map, List.getElem?_map, range_get hc]; rfl
theorem growL_set {n : Nat} {ts : List Tk} {ss g : List Int} {f m : Nat} {wanted : Int} {p c : Nat} (h : (freeL ts f m)[p]? = some c) :
    ((growL n ts ss g f m wanted p).map V.int).set c (.int (max (growP ts ss g f m wanted p c) (partA (wanted - sliceSum ss f m) (freeL ts f m).length p))) = (growL n ts ss g f m wanted (p + 1)).map V.int := by
  apply List.ext_getElem?
  intro i
  rw [List.getElem?_set, List.getElem?_map, List.getElem?_map, List.getElem?_map, List.getElem?_map]
  by_cases hi : i < n
  · rw [range_get hi]
    by_cases hci : c = i
    · subst hci
      rw [if_pos rfl, if_pos (by rw [List.length_map, List.length_map, List.length_range]; exact hi)]
      show _ = some (V.int (growP ts ss g f m wanted (p + 1) c))
      rw [growP_succ h, if_pos rfl]
    · rw [if_neg hci]
      show some (V.int (growP ts ss g f m wanted p i)) = some (V.int (growP ts ss g f m wanted (p + 1) i))
      rw [growP_succ h, if_neg (fun e => hci e.symm)]
  · rw [List.getElem?_eq_none (by rw [List.length_range]; omega)]
    by_cases hci : c = i
    · subst hci
      rw [if_pos rfl, if_neg (by rw [List.length_map, List.length_map, List.length_range]; exact hi)]; rfl
    · rw [if_neg hci]; rfl
theorem AskAt.but {H H' : Hp} {v : V} {q : Ask3} {a : Addr} {xs : List V} (h : AskAt H v q) (g : H a = some (.lst xs)) (b : But a H H') : AskAt H' v q := let ⟨r, e, g2⟩ := h; ⟨r, e, b.app (fun z => by rw [z, g] at g2; cases g2) g2⟩
theorem grow1_nonneg {n : Nat} {ts : List Tk} {gap : Int} {ss : List Int} {many : Nat} {g : List Int} {q : Ask3} (h : ∀ z ∈ g, 0 ≤ z) : ∀ z ∈ grow1 n ts gap ss many g q, 0 ≤ z := fun z hz => by
  unfold grow1 at hz
  split at hz
  · unfold growM at hz
    obtain ⟨i, _, rfl⟩ := List.mem_map.mp hz
    have := pA_nonneg ts ss q.1 q.2.1 (q.2.2 - gap * ((many : Int) - 1)) i
    omega
  · exact h z hz
theorem grown_nonneg {n : Nat} {ts : List Tk} {gap : Int} {ss : List Int} {many : Nat} : ∀ (qs : List Ask3) (g : List Int), (∀ z ∈ g, 0 ≤ z) → ∀ z ∈ qs.foldl (grow1 n ts gap ss many) g, 0 ≤ z
  | [], g, h => h
  | q :: qs, g, h => grown_nonneg qs _ (grow1_nonneg h)
theorem foldl_take {α β : Type} {f : β → α → β} {l : List α} {x : β} {i : Nat} {a : α} (h : l[i]? = some a) : (l.take (i + 1)).foldl f x = f ((l.take i).foldl f x) a := by
  rw [List.take_add_one, h, List.foldl_append]; rfl
theorem stepM_V {ts : List Tk} {qs : List Ask3} {gap : Int} {ss : List Int} {many : Nat} : (List.range ts.length).map (fun i => V.int (wAt ss i + wAt (grownM ts qs gap ss many) i)) = (stepM ts qs gap ss many).map V.int := by
  unfold stepM
  rw [List.map_map]; rfl
theorem AsksAt.but {H H' : Hp} {vs : List V} {qs : List Ask3} {a : Addr} {xs : List V} (h : AsksAt H vs qs) (g : H a = some (.lst xs)) (b : But a H H') : AsksAt H' vs qs := ⟨h.1, fun i v q x y => (h.2 i v q x y).but g b⟩
theorem TksAt.dr {H H' : Hp} {vs : List V} {ts : List Tk} {a : Addr} (h : TksAt H vs ts) (hs : Src H a) (d : Dr a H H') : TksAt H' vs ts := let ⟨_, e⟩ := hs; h.but e d.b
theorem AsksAt.dr {H H' : Hp} {vs : List V} {qs : List Ask3} {a : Addr} (h : AsksAt H vs qs) (hs : Src H a) (d : Dr a H H') : AsksAt H' vs qs := let ⟨_, e⟩ := hs; h.but e d.b
theorem TkAt.dr {H H' : Hp} {v : V} {t : Tk} {a : Addr} (h : TkAt H v t) (hs : Src H a) (d : Dr a H H') : TkAt H' v t := let ⟨_, e⟩ := hs; h.but e d.b
theorem AsksAt.snoc {H : Hp} {vs : List V} {qs : List Ask3} {v : V} {q : Ask3} (h : AsksAt H vs qs) (hv : AskAt H v q) : AsksAt H (vs ++ [v]) (qs ++ [q]) := by
  have l := h.1
  refine ⟨by simp [l], fun i x y hx hy => ?_⟩
  by_cases hi : i < vs.length
  · rw [List.getElem?_append_left hi] at hx
    rw [List.getElem?_append_left (by omega)] at hy
    exact h.2 i x y hx hy
  · have : i = vs.length := by
      have := (List.getElem?_eq_some_iff.mp hx).1
      simp at this; omega
    subst this
    rw [List.getElem?_concat_length] at hx
    rw [l, List.getElem?_concat_length] at hy
    cases hx; cases hy; exact hv
theorem both_shaped (ts : List Tk) (qs : List Ask3) : SeqAt.shaped (.list [.list (ts.map tkD), .list (qs.map askD)]) = true := by
  unfold SeqAt.shaped
  have c1 := canLayAll0_map (g := tkD) (fun x => (tkD_can x).1) ts
  have c2 := canLayAll0_map (g := askD) (fun x => (askD_can x).1) qs
  have d1 := depthAll_map (g := tkD) (m := 1) (fun x => (tkD_can x).2) ts
  have d2 := depthAll_map (g := askD) (m := 1) (fun x => (askD_can x).2) qs
  rw [Bool.and_eq_true]
  refine ⟨by simp only [PyData.canLay0, PyData.canLayAll0, c1, c2, Bool.and_self], decide_eq_true ?_⟩
  simp only [PyData.depth, PyData.depthAll]; omega
theorem both_same (ts : List Tk) (qs : List Ask3) : PyData.eqv (.list [.list (ts.map tkD), .list (qs.map askD)]) (.list [.list (ts.map tkD), .list (qs.map askD)]) = true := by
  have n : nob (.list [.list (ts.map tkD), .list (qs.map askD)]) = true := by
    have h1 := nobAll_map (g := tkD) tkD_nob ts
    have h2 := nobAll_map (g := askD) askD_nob qs
    simp only [nob, nobAll, h1, h2, Bool.and_self]
  exact (eqv_iff n n).mpr rfl
end My

/-! ### tracks: asks reached, asks in another order: plain mathematics -/
namespace My
open PySem L2
theorem trackM_rev (ts : List Tk) (qs : List Ask3) (gap : Int) : trackM ts qs.reverse gap = trackM ts qs gap := by
  have h : ∀ ss many, stepM ts qs.reverse gap ss many = stepM ts qs gap ss many := fun ss many => by
    unfold stepM
    refine List.map_congr_left fun i hi => ?_
    have hi := List.mem_range.mp hi
    rw [grownM_at hi, grownM_at hi]
    congr 1
    refine maxF_perm fun y => ?_
    unfold dealsA
    rw [List.filter_reverse, List.map_reverse, List.mem_reverse]
  unfold trackM
  have e : (fun s k => stepM ts qs.reverse gap s (k + 1)) = (fun s k => stepM ts qs gap s (k + 1)) := by
    funext s k
    exact h s (k + 1)
  rw [e]
abbrev seg (f m : Nat) : List Nat := (List.range m).map fun k => f + k
theorem seg_mem {f m i : Nat} : i ∈ seg f m ↔ f ≤ i ∧ i < f + m := by
  rw [List.mem_map]
  constructor
  · rintro ⟨k, hk, rfl⟩
    have := List.mem_range.mp hk
    omega
  · intro h
    exact ⟨i - f, List.mem_range.mpr (by omega), by omega⟩
theorem slice_S {ss : List Int} {f : Nat} : ∀ {m : Nat}, f + m ≤ ss.length → sliceSum ss f m = S (wAt ss) (seg f m) := by
  intro m
  induction m with
  | zero => intro _; unfold sliceSum; simp [S]
  | succ m ih =>
    intro h
    have h2 := ih (by omega)
    have e1 : seg f (m + 1) = seg f m ++ [f + m] := by unfold seg; rw [List.range_succ, List.map_append]; rfl
    rw [e1, S_append, ← h2]
    unfold sliceSum
    have e2 : (ss.take (f + (m + 1))) = ss.take (f + m) ++ [wAt ss (f + m)] := by
      rw [← Nat.add_assoc, List.take_add_one, List.getElem?_eq_getElem (by omega : f + m < ss.length)]
      congr 1
      unfold wAt
      rw [List.getD_eq_getElem?_getD, List.getElem?_eq_getElem (by omega : f + m < ss.length)]; rfl
    rw [e2, List.drop_append_of_le_length (by rw [List.length_take]; omega), List.sum_append]
    rfl
theorem parts_all (lack : Int) {L : Nat} (hL : 0 < L) : S (fun j => partA lack L j) (List.range L) = lack := by
  have key : ∀ n, S (fun j => partA lack L j) (List.range n) = lack * (n : Int) / (L : Int) := by
    intro n
    induction n with
    | zero => simp [S]
    | succ n ih =>
      rw [List.range_succ, S_append, ih, S_cons, S_nil]
      unfold partA
      have : ((n + 1 : Nat) : Int) = (n : Int) + 1 := by omega
      rw [this]; omega
  rw [key, Int.mul_ediv_cancel _ (by omega)]
theorem pA_sum {ts : List Tk} {ss : List Int} {f m : Nat} {wanted : Int} (hl : 0 < wanted - sliceSum ss f m) (hne : freeL ts f m ≠ []) : S (pA ts ss f m wanted) (seg f m) = wanted - sliceSum ss f m := by
  have hL : 0 < (freeL ts f m).length := List.length_pos_iff.mpr hne
  rw [S_split _ (tkF ts)]
  have e0 : S (pA ts ss f m wanted) ((seg f m).filter fun i => !tkF ts i) = 0 := by
    have : S (pA ts ss f m wanted) ((seg f m).filter fun i => !tkF ts i) = S (fun _ => 0 * 0) ((seg f m).filter fun i => !tkF ts i) := S_congr fun i hi => by
      have h := (List.mem_filter.mp hi).2
      unfold pA
      rw [if_neg (fun z => ?_)]; rfl
      have := (freeL_mem.mp z.1).2.2
      rw [this] at h; cases h
    rw [this, S_mul, Int.zero_mul]
  have e1 : S (pA ts ss f m wanted) ((seg f m).filter (tkF ts)) = S (fun j => partA (wanted - sliceSum ss f m) (freeL ts f m).length j) (List.range (freeL ts f m).length) := by
    show ((freeL ts f m).map _).sum = _
    unfold S
    congr 1
    apply List.ext_getElem?
    intro j
    rw [List.getElem?_map, List.getElem?_map]
    by_cases hj : j < (freeL ts f m).length
    · rw [List.getElem?_eq_getElem hj, range_get hj]
      show some (pA ts ss f m wanted (freeL ts f m)[j]) = some _
      unfold pA
      rw [if_pos ⟨List.getElem_mem _, hl⟩, idxOf_at (freeL_nodup ts f m) (List.getElem?_eq_getElem hj)]
    · rw [List.getElem?_eq_none (by omega), List.getElem?_eq_none (by rw [List.length_range]; omega)]; rfl
  rw [e0, e1, parts_all _ hL]; omega
theorem step_ge {ts : List Tk} {qs : List Ask3} {gap : Int} {k i : Nat} (hi : i < ts.length) : wAt (stepsM ts qs gap k) i ≤ wAt (stepsM ts qs gap (k + 1)) i := by
  rw [stepsM_succ, stepM_at hi, grownM_at hi]
  have : 0 ≤ maxF 0 (dealsA ts qs gap (stepsM ts qs gap k) (k + 1) i) := maxF_ge
  omega
theorem steps_ge {ts : List Tk} {qs : List Ask3} {gap : Int} {i : Nat} (hi : i < ts.length) : ∀ (d k : Nat), wAt (stepsM ts qs gap k) i ≤ wAt (stepsM ts qs gap (k + d)) i
  | 0, _ => Int.le_refl _
  | d + 1, k => Int.le_trans (steps_ge hi d k) (step_ge hi)
/-- each ask that has a track that isn't of so many cells has its size at least -/
theorem ask_reached {ts : List Tk} {qs : List Ask3} {gap : Int} {q : Ask3} (hq : q ∈ qs) (ok : AskOk ts.length q) (hne : freeL ts q.1 q.2.1 ≠ []) : q.2.2 ≤ sliceSum (trackM ts qs gap) q.1 q.2.1 + gap * ((q.2.1 : Int) - 1) := by
  obtain ⟨o1, o2, o3⟩ := ok
  obtain ⟨f, m, size⟩ := q
  have o1 : 1 ≤ m := o1
  obtain ⟨k, rfl⟩ : ∃ k, m = k + 1 := ⟨m - 1, by omega⟩
  have o1 : 1 ≤ k + 1 := o1
  have o2 : f + (k + 1) ≤ ts.length := o2
  show size ≤ sliceSum (trackM ts qs gap) f (k + 1) + gap * (((k + 1 : Nat) : Int) - 1)
  have hne : freeL ts f (k + 1) ≠ [] := hne
  have e : trackM ts qs gap = stepsM ts qs gap ((k + 1) + (ts.length - (k + 1))) := by
    rw [show (k + 1) + (ts.length - (k + 1)) = ts.length by omega]; rfl
  have l1 : ∀ j, (stepsM ts qs gap j).length = ts.length := stepsM_len ts qs gap
  rw [e, slice_S (by rw [l1]; exact o2)]
  have h1 : S (wAt (stepsM ts qs gap (k + 1))) (seg f (k + 1)) ≤ S (wAt (stepsM ts qs gap ((k + 1) + (ts.length - (k + 1))))) (seg f (k + 1)) := S_le fun i hi => by
    have := seg_mem.mp hi
    exact steps_ge (by omega) _ _
  obtain ⟨wd, hwd⟩ : ∃ wd, wd = size - gap * (((k + 1 : Nat) : Int) - 1) := ⟨_, rfl⟩
  have h2 : S (wAt (stepsM ts qs gap k)) (seg f (k + 1)) + S (pA ts (stepsM ts qs gap k) f (k + 1) wd) (seg f (k + 1)) ≤ S (wAt (stepsM ts qs gap (k + 1))) (seg f (k + 1)) := by
    have : S (fun i => wAt (stepsM ts qs gap k) i + pA ts (stepsM ts qs gap k) f (k + 1) wd i) (seg f (k + 1)) = S (wAt (stepsM ts qs gap k)) (seg f (k + 1)) + S (pA ts (stepsM ts qs gap k) f (k + 1) wd) (seg f (k + 1)) := by
      have add : ∀ R : List Nat, S (fun i => wAt (stepsM ts qs gap k) i + pA ts (stepsM ts qs gap k) f (k + 1) wd i) R = S (wAt (stepsM ts qs gap k)) R + S (pA ts (stepsM ts qs gap k) f (k + 1) wd) R := fun R => by
        induction R with
        | nil => rfl
        | cons i R ih => rw [S_cons, S_cons, S_cons, ih]; omega
      exact add _
    rw [← this]
    refine S_le fun i hi => ?_
    have hi := seg_mem.mp hi
    rw [stepsM_succ, stepM_at (by omega), grownM_at (by omega)]
    have : pA ts (stepsM ts qs gap k) f (k + 1) wd i ≤ maxF 0 (dealsA ts qs gap (stepsM ts qs gap k) (k + 1) i) := by
      refine maxF_all ?_
      unfold dealsA
      refine List.mem_map.mpr ⟨(f, k + 1, size), List.mem_filter.mpr ⟨hq, decide_eq_true rfl⟩, ?_⟩
      rw [hwd]
    omega
  have h3 : sliceSum (stepsM ts qs gap k) f (k + 1) = S (wAt (stepsM ts qs gap k)) (seg f (k + 1)) := slice_S (by rw [l1]; exact o2)
  by_cases hl : 0 < wd - sliceSum (stepsM ts qs gap k) f (k + 1)
  · rw [pA_sum hl hne] at h2
    omega
  · have h4 : 0 ≤ S (pA ts (stepsM ts qs gap k) f (k + 1) wd) (seg f (k + 1)) := S_nonneg fun i _ => pA_nonneg ..
    omega
theorem AsksAt.rev {H : Hp} {vs : List V} {qs : List Ask3} (h : AsksAt H vs qs) : AsksAt H vs.reverse qs.reverse := by
  have l := h.1
  refine ⟨by rw [List.length_reverse, List.length_reverse, l], fun i v q hv hq => ?_⟩
  have hi := (List.getElem?_eq_some_iff.mp hv).1
  rw [List.length_reverse] at hi
  rw [List.getElem?_reverse hi] at hv
  rw [List.getElem?_reverse (by omega), ← l] at hq
  exact h.2 _ v q hv hq
theorem natI_ne {l : List Nat} : (!decide (natI l = [])) = !decide (l = []) := by
  rw [decide_eq_decide.mpr natI_nil]
end My

/-! ### boxes and trees of boxes as they stand -/
namespace My
open PySem PySem.Spec PyProof.Rows L2
inductive Kd | words | picture | row | pile | grid
  deriving DecidableEq
/-- what a box has of its own -/
inductive Own
  | words (t : List Nat)
  | picture (a d : Int)
  | row (turn : Bool) (gap lane : Int) (pack stands : String)
  | pile (gap : Int) (pack stands : String)
  | grid (sp : List (Int × Int × Int × Int)) (cs rs : List Tk) (gap lane : Int) (stands : String)
def Own.kd : Own → Kd
  | .words _ => .words
  | .picture _ _ => .picture
  | .row .. => .row
  | .pile .. => .pile
  | .grid .. => .grid
/-- a tree: the box at x, its name, its style's values, its own, the boxes in it -/
inductive At
  | mk (x : Addr) (nm : List Nat) (st : List V) (o : Own) (kids : List At)
def At.x : At → Addr | .mk x _ _ _ _ => x
def At.nm : At → List Nat | .mk _ n _ _ _ => n
def At.st : At → List V | .mk _ _ s _ _ => s
def At.own : At → Own | .mk _ _ _ o _ => o
def At.kids : At → List At | .mk _ _ _ _ ks => ks
def refs (ks : List At) : List V := ks.map fun k => .ref k.x
/-- four numbers in a tuple -/
def SpAt (H : Hp) (v : V) (q : Int × Int × Int × Int) : Prop := ∃ p, v = .ref p ∧ H p = some (.tup [.int q.1, .int q.2.1, .int q.2.2.1, .int q.2.2.2])
def SpsAt (H : Hp) (vs : List V) (qs : List (Int × Int × Int × Int)) : Prop := vs.length = qs.length ∧ ∀ (i : Nat) (v : V) (q : Int × Int × Int × Int), vs[i]? = some v → qs[i]? = some q → SpAt H v q
inductive BoxAt (bc : Kd → Addr) (S : Addr) (K : PySem.W.Frag) (H : Hp) : At → Prop
  | words {x dx y dy : Addr} {nm t : List Nat} {st : List V} (hx : H x = some (.ins (bc .words) dx [("name", .str (sO nm)), ("text", .str (sO t)), ("style", .ref y)])) (hy : H y = some (.ins S dy (styL st))) (ok : OkL K H st) (hn : NameOk nm) (ht : t.length ≤ 10000) : BoxAt bc S K H (.mk x nm st (.words t) [])
  | picture {x dx y dy : Addr} {nm : List Nat} {a d : Int} {st : List V} (hx : H x = some (.ins (bc .picture) dx [("name", .str (sO nm)), ("across", .int a), ("down", .int d), ("style", .ref y)])) (hy : H y = some (.ins S dy (styL st))) (ok : OkL K H st) (hn : NameOk nm) (ha : 1 ≤ a) (hd : 1 ≤ d) : BoxAt bc S K H (.mk x nm st (.picture a d) [])
  | row {x dx y dy b : Addr} {nm : List Nat} {turn : Bool} {gap lane : Int} {pack stands : String} {st : List V} {kids : List At} (hx : H x = some (.ins (bc .row) dx [("name", .str (sO nm)), ("boxes", .ref b), ("turn", .bl turn), ("gap", .int gap), ("lane", .int lane), ("pack", sX pack), ("stands", sX stands), ("style", .ref y)]))
      (hy : H y = some (.ins S dy (styL st))) (ok : OkL K H st) (hn : NameOk nm) (g0 : 0 ≤ gap) (l0 : 0 ≤ lane) (hb : H b = some (.tup (refs kids))) (lk : kids.length ≤ 1000) (hk : ∀ k ∈ kids, BoxAt bc S K H k) : BoxAt bc S K H (.mk x nm st (.row turn gap lane pack stands) kids)
  | pile {x dx y dy b : Addr} {nm : List Nat} {gap : Int} {pack stands : String} {st : List V} {kids : List At} (hx : H x = some (.ins (bc .pile) dx [("name", .str (sO nm)), ("boxes", .ref b), ("gap", .int gap), ("pack", sX pack), ("stands", sX stands), ("style", .ref y)]))
      (hy : H y = some (.ins S dy (styL st))) (ok : OkL K H st) (hn : NameOk nm) (g0 : 0 ≤ gap) (hb : H b = some (.tup (refs kids))) (lk : kids.length ≤ 1000) (hk : ∀ k ∈ kids, BoxAt bc S K H k) : BoxAt bc S K H (.mk x nm st (.pile gap pack stands) kids)
  | grid {x dx y dy b pc pr ps : Addr} {nm : List Nat} {sp : List (Int × Int × Int × Int)} {cs rs : List Tk} {gap lane : Int} {stands : String} {st us vs ws : List V} {kids : List At} (hx : H x = some (.ins (bc .grid) dx [("name", .str (sO nm)), ("boxes", .ref b), ("columns", .ref pc), ("rows", .ref pr), ("spots", .ref ps), ("gap", .int gap), ("lane", .int lane), ("stands", sX stands), ("style", .ref y)]))
      (hy : H y = some (.ins S dy (styL st))) (ok : OkL K H st) (hn : NameOk nm) (g0 : 0 ≤ gap) (l0 : 0 ≤ lane) (hb : H b = some (.tup (refs kids))) (lk : kids.length ≤ 1000) (hk : ∀ k ∈ kids, BoxAt bc S K H k)
      (hc : H pc = some (.tup us)) (tc : TksAt H us cs) (oc : ∀ t ∈ cs, t.ok) (nc : cs ≠ []) (hr : H pr = some (.tup vs)) (tr : TksAt H vs rs) (or : ∀ t ∈ rs, t.ok) (nr : rs ≠ []) (hs : H ps = some (.tup ws)) (ts : SpsAt H ws sp) (lsp : sp.length = kids.length) (lcs : cs.length ≤ 1000) (lrs : rs.length ≤ 1000) : BoxAt bc S K H (.mk x nm st (.grid sp cs rs gap lane stands) kids)
/-- what is no list and no dict -/
def Still : HO → Prop
  | .lst _ => False
  | .dK _ => False
  | .dT _ => False
  | .ins _ _ [] => False
  | _ => True
/-- all but lists, dicts and bare instances stay -/
def KeepS (H H' : Hp) : Prop := ∀ (a : Addr) (o : HO), H a = some o → Still o → H' a = some o
section
variable {K : PySem.W.Frag} {H H1 H2 H' : Hp} {bc : Kd → Addr} {S : Addr}
theorem Same.ks (s : Same H H') : KeepS H H' := fun a o h _ => s a o h
theorem KeepS.refl : KeepS H H := fun a o h _ => h
theorem KeepS.trans (p : KeepS H H1) (q : KeepS H1 H2) : KeepS H H2 := fun a o h s => q a o (p a o h s) s
theorem KeepS.butL {l : Addr} {xs : List V} (p : KeepS H H1) (b : But l H1 H2) (h : H1 l = some (.lst xs)) : KeepS H H2 := fun a o e s => b a o (by rintro rfl; rw [p _ _ e s] at h; cases h; exact s) (p a o e s)
theorem KeepS.butT {l : Addr} {xs : List (List Key × V)} (p : KeepS H H1) (b : But l H1 H2) (h : H1 l = some (.dT xs)) : KeepS H H2 := fun a o e s => b a o (by rintro rfl; rw [p _ _ e s] at h; cases h; exact s) (p a o e s)
theorem KeepS.butK {l : Addr} {xs : List (Key × V)} (p : KeepS H H1) (b : But l H1 H2) (h : H1 l = some (.dK xs)) : KeepS H H2 := fun a o e s => b a o (by rintro rfl; rw [p _ _ e s] at h; cases h; exact s) (p a o e s)
theorem KeepS.new {l : Addr} (p : KeepS H H1) (b : But l H1 H2) (h : H l = none) : KeepS H H2 := fun a o e s => b a o (ne_of_none e h) (p a o e s)
theorem KeepS.same (p : KeepS H H1) (s : Same H1 H2) : KeepS H H2 := p.trans (Same.ks s)
theorem Dr.ks {s : Addr} (d : Dr s H H') (hs : Src H s) : KeepS H H' := let ⟨_, e⟩ := hs; KeepS.refl.butL d.b e
theorem KeepS.tup {a : Addr} {xs : List V} (p : KeepS H H') (h : H a = some (.tup xs)) : H' a = some (.tup xs) := p _ _ h True.intro
theorem KeepS.ins {a C d : Addr} {f : Str × V} {fs : List (Str × V)} (p : KeepS H H') (h : H a = some (.ins C d (f :: fs))) : H' a = some (.ins C d (f :: fs)) := p _ _ h True.intro
theorem KeepS.butE {x C d : Addr} (b : But x H H') (h : H x = some (.ins C d [])) : KeepS H H' := fun a o e s => b a o (by rintro rfl; rw [h] at e; cases e; exact s) e
theorem KeepS.butX {x C d : Addr} (p : KeepS H H1) (b : But x H1 H2) (h : H x = some (.ins C d [])) : KeepS H H2 := fun a o e s => b a o (by rintro rfl; rw [h] at e; cases e; exact s) (p a o e s)
theorem KeepS.sty {a C d : Addr} {st : List V} (p : KeepS H H') (ok : st.length = 10) (h : H a = some (.ins C d (styL st))) : H' a = some (.ins C d (styL st)) := by
  obtain ⟨w, h', lw, lh, mw, mh, g, s, r, q, rfl⟩ := ten ok
  exact p.ins h
theorem KeepS.sqT {a : Addr} {xs : List V} (p : KeepS H H') (h : SqT K H a xs) : SqT K H' a xs := by
  rcases h with (h | ⟨o, h⟩) | h
  · exact .inl (.inl (p.tup h))
  · exact .inl (.inr ⟨o, p _ _ h True.intro⟩)
  · exact .inr h
theorem KeepS.szAt {v : V} (p : KeepS H H') (h : SzAt H v) : SzAt H' v := by
  cases h with
  | non => exact .non
  | cells n => exact .cells n
  | part a n h => exact .part a n (p.tup h)
  | tie a l sd m hl hs h => exact .tie a l sd m hl hs (p.tup h)
theorem KeepS.okF {i : Nat} {v : V} (p : KeepS H H') (h : OkF K H i v) : OkF K H' i v :=
  match i, h with
  | 0, h => p.szAt h
  | 1, h => p.szAt h
  | 2, h => h
  | 3, h => h
  | 4, h => h
  | 5, h => h
  | 6, h => h
  | 7, h => h
  | 8, h => let ⟨a, n0, n1, n2, n3, e, g⟩ := h; ⟨a, n0, n1, n2, n3, e, p.sqT g⟩
  | _ + 9, h => h
theorem KeepS.okL {fs : List V} (p : KeepS H H') (h : OkL K H fs) : OkL K H' fs := ⟨h.1, fun i v e => p.okF (h.2 i v e)⟩
theorem KeepS.tks {us : List V} {ts : List Tk} (p : KeepS H H') (h : TksAt H us ts) : TksAt H' us ts := ⟨h.1, fun i v t a b => by
  have q := h.2 i v t a b
  cases t with
  | cells n => exact q
  | fit => exact q
  | share k => obtain ⟨r, e, g⟩ := q; exact ⟨r, e, p.tup g⟩⟩
theorem KeepS.sps {us : List V} {qs : List (Int × Int × Int × Int)} (p : KeepS H H') (h : SpsAt H us qs) : SpsAt H' us qs := ⟨h.1, fun i v q e1 e2 => let ⟨r, e, g⟩ := h.2 i v q e1 e2; ⟨r, e, p.tup g⟩⟩
theorem BoxAt.ks {t : At} (h : BoxAt bc S K H t) (p : KeepS H H') : BoxAt bc S K H' t := by
  induction h with
  | words hx hy ok hn ht => exact .words (p.ins hx) (p.sty ok.1 hy) (p.okL ok) hn ht
  | picture hx hy ok hn ha hd => exact .picture (p.ins hx) (p.sty ok.1 hy) (p.okL ok) hn ha hd
  | row hx hy ok hn g0 l0 hb lk hk ih => exact .row (p.ins hx) (p.sty ok.1 hy) (p.okL ok) hn g0 l0 (p.tup hb) lk ih
  | pile hx hy ok hn g0 hb lk hk ih => exact .pile (p.ins hx) (p.sty ok.1 hy) (p.okL ok) hn g0 (p.tup hb) lk ih
  | grid hx hy ok hn g0 l0 hb lk hk hc tc oc nc hr tr or nr hs ts lsp lcs lrs ih => exact .grid (p.ins hx) (p.sty ok.1 hy) (p.okL ok) hn g0 l0 (p.tup hb) lk ih (p.tup hc) (p.tks tc) oc nc (p.tup hr) (p.tks tr) or nr (p.tup hs) (p.sps ts) lsp lcs lrs
end
/-! #### what isinstance asks of the five classes -/
structure KdF (K : PySem.W.Frag) (bc : Kd → Addr) (B : Addr) : Prop where
  cl : ∀ k, Cls K (bc k)
  wc : ∀ k, PySem.W.findIn K (.ref (bc k)) "__class__" = some (some (.builtin "object.__class__"))
  wg : PySem.W.specialIn K (.builtin "object.__class__") "__get__" = some (some (.builtin "getset_descriptor.__get__"))
  wt : PySem.W.takesIn K (.builtin "object.__class__") = some true
  wm : ∀ k, PySem.W.mroIn K (bc k) (.type "object") = some true
  is_ : ∀ k j, PySem.W.kitOne K (.ref (bc k)) (.ref (bc j)) = some (decide (k = j))
  box : ∀ k, PySem.W.kitOne K (.ref (bc k)) (.ref B) = some true
  nm : ∀ k, PySem.W.findIn K (.ref (bc k)) "name" = some none
  sy : ∀ k, PySem.W.findIn K (.ref (bc k)) "style" = some none
/-- the box's object: its class, its fields -/
theorem BoxAt.ob {bc : Kd → Addr} {S : Addr} {K : PySem.W.Frag} {H : Hp} {t : At} (h : BoxAt bc S K H t) : ∃ (dx y dy : Addr) (fs : List (Str × V)), H t.x = some (.ins (bc t.own.kd) dx fs) ∧ fs.lookup (Str.ofString "name") = some (.str (sO t.nm)) ∧ fs.lookup (Str.ofString "style") = some (.ref y) ∧ H y = some (.ins S dy (styL t.st)) ∧ fs.lookup (Str.ofString "held_boxes") = none ∧ NameOk t.nm ∧ OkL K H t.st := by
  cases h with
  | words hx hy ok hn ht => exact ⟨_, _, _, _, hx, rfl, rfl, hy, rfl, hn, ok⟩
  | picture hx hy ok hn ha hd => exact ⟨_, _, _, _, hx, rfl, rfl, hy, rfl, hn, ok⟩
  | row hx hy ok hn g0 l0 hb lk hk => exact ⟨_, _, _, _, hx, rfl, rfl, hy, rfl, hn, ok⟩
  | pile hx hy ok hn g0 hb lk hk => exact ⟨_, _, _, _, hx, rfl, rfl, hy, rfl, hn, ok⟩
  | grid hx hy ok hn g0 l0 hb lk hk hc tc oc nc hr tr or nr hs ts lsp lcs lrs => exact ⟨_, _, _, _, hx, rfl, rfl, hy, rfl, hn, ok⟩
theorem BoxAt.tyx {bc : Kd → Addr} {S B : Addr} {K : PySem.W.Frag} {H : Hp} {t : At} (h : BoxAt bc S K H t) (F : KdF K bc B) : TyX K H (.ref t.x) (.ref (bc t.own.kd)) := by
  obtain ⟨dx, y, dy, fs, hx, _⟩ := h.ob
  exact .base (.ins hx (F.cl _) (F.wc _) F.wg F.wt (F.wm _))
theorem BoxAt.kid {bc : Kd → Addr} {S : Addr} {K : PySem.W.Frag} {H : Hp} {t : At} (h : BoxAt bc S K H t) : ∀ k ∈ t.kids, BoxAt bc S K H k := by
  cases h with
  | words hx hy ok hn ht => exact fun k m => by cases m
  | picture hx hy ok hn ha hd => exact fun k m => by cases m
  | row hx hy ok hn g0 l0 hb lk hk => exact hk
  | pile hx hy ok hn g0 hb lk hk => exact hk
  | grid hx hy ok hn g0 l0 hb lk hk hc tc oc nc hr tr or nr hs ts lsp lcs lrs => exact hk
theorem BoxAt.few {bc : Kd → Addr} {S : Addr} {K : PySem.W.Frag} {H : Hp} {t : At} (h : BoxAt bc S K H t) : t.kids.length ≤ 1000 := by
  cases h with
  | words hx hy ok hn ht => exact Nat.zero_le _
  | picture hx hy ok hn ha hd => exact Nat.zero_le _
  | row hx hy ok hn g0 l0 hb lk hk => exact lk
  | pile hx hy ok hn g0 hb lk hk => exact lk
  | grid hx hy ok hn g0 l0 hb lk hk hc tc oc nc hr tr or nr hs ts lsp lcs lrs => exact lk
/-! #### in order, each with its holder's name -/
mutual
def At.pre : At → V → List (Addr × List Nat × V)
  | .mk x nm _ _ ks, h => (x, nm, h) :: preL ks (.str (sO nm))
def preL : List At → V → List (Addr × List Nat × V)
  | [], _ => []
  | k :: ks, h => k.pre h ++ preL ks h
end
mutual
def At.depth : At → Nat
  | .mk _ _ _ _ ks => depthL ks + 1
def depthL : List At → Nat
  | [] => 0
  | k :: ks => max k.depth (depthL ks)
end
theorem preL_app : ∀ (a b : List At) (h : V), preL (a ++ b) h = preL a h ++ preL b h
  | [], b, h => by rw [List.nil_append, preL, List.nil_append]
  | k :: a, b, h => by rw [List.cons_append, preL, preL, preL_app a b h, List.append_assoc]
theorem preL_snoc {ks : List At} {i : Nat} {k : At} (h : ks[i]? = some k) (v : V) : preL (ks.take (i + 1)) v = preL (ks.take i) v ++ k.pre v := by
  rw [List.take_add_one, h, preL_app]
  show preL _ v ++ preL [k] v = _
  rw [preL, preL, List.append_nil]
theorem preL_le (ks : List At) (i : Nat) (v : V) : (preL (ks.take i) v).length ≤ (preL ks v).length := by
  conv => rhs; rw [← List.take_append_drop i ks, preL_app, List.length_append]
  omega
theorem At.pre_eq (t : At) (h : V) : t.pre h = (t.x, t.nm, h) :: preL t.kids (.str (sO t.nm)) := by
  cases t; rw [At.pre]; rfl
theorem At.depth_eq (t : At) : t.depth = depthL t.kids + 1 := by
  cases t; rw [At.depth]; rfl
theorem depth_kid {k : At} : ∀ {ks : List At}, k ∈ ks → k.depth ≤ depthL ks
  | j :: ks, m => by
    rw [depthL]
    rcases List.mem_cons.mp m with rfl | m
    · exact Nat.le_max_left _ _
    · exact Nat.le_trans (depth_kid m) (Nat.le_max_right _ _)
/-! #### a method of one name in each of the classes -/
structure HeldM (P : Program) (w : World) (K : PySem.W.Frag) (mg : Str → Option Value) (base : Heap) (k : Nat) (C : Addr) (m : Str) (sp : Sp) : Prop where
  ex : ∃ (f : Addr) (fd : FuncData) (ps : List Str), Cls K C ∧ Meth K C m f ∧ FnOk P w K mg base CX0 k f fd ps sp ∧ Binds K fd ps []
def tMethK (bc : Kd → Addr) (m : Str) (sp : Kd → Sp) (ta : TE) : TE := fun σ H Q => ta σ H fun x H1 => ∃ a kd dx fs, x = .ref a ∧ H1 a = some (.ins (bc kd) dx fs) ∧ fs.lookup m = none ∧ sp kd [x] H1 Q E0
section
variable {X : Cx} {k : Nat} {bc : Kd → Addr} {sp : Kd → Sp} {m : Str} {pos apos : Pos} {o : Expr} {ta : TE}
theorem pe_methK {pl : Sem Bool} (he : PE X o ta) (A : ∀ kd, HeldM X.prog X.w X.K X.mg X.base k (bc kd) m (sp kd)) (hr : Room k X.A)
    (ht : eval (.Call (.Attribute o m apos) [] [] pos) X.env = (do
      let ov ← eval o X.env
      standAt apos.atName
      let (f, first) ← holding [ov] (getMethod ov m pl)
      callWith pos f first (backTo pos (starEach [] X.env)) (backToKw pos (keywordEach [] X.env))) := by rfl) :
    PE X (.Call (.Attribute o m apos) [] [] pos) (tMethK bc m sp ta) := by
  refine ⟨fun pins s σ H Q I h => ?_⟩
  refine PySem.W.methodCall_KW (pl := pl) (thn (he.run pins s σ H _ I h) fun u s1 ⟨x, H1, I1, rx, a, kd, dx, fs, ex, ea, l, q⟩ => ?_) ht
  subst ex
  obtain rfl : u = Value.ref a := rx
  obtain ⟨f, fd, ps, c, hm, F, hb⟩ := (A kd).ex
  refine getmeth_ok I1 ea c hm l ?_
  exact PySem.W.callWith_K0 (first := [.ref a]) I1.kIn hm.kp (run_fn (us := [.ref a]) (vs := [.ref a]) (dvs := []) F hr hb .nil pass0 I1 (.cons rfl .nil) q)
end
end My
namespace My
open PySem PySem.Spec PyProof.Rows L2
/-- what may be handed in as a style: nothing, or a style's object -/
def StyAt (K : PySem.W.Frag) (H : Hp) (S U : Addr) (v : V) : Prop := v = .non ∨ ∃ (y dy : Addr) (st : List V), v = .ref y ∧ H y = some (.ins S dy (styL st)) ∧ OkL K H st
/-- the values that the box's style has then -/
def StyIs (K : PySem.W.Frag) (H : Hp) (S U : Addr) (v : V) (st : List V) : Prop := (v = .non ∧ st = dfltL U) ∨ ∃ (y dy : Addr), v = .ref y ∧ H y = some (.ins S dy (styL st))
/-- the style's step in an __init__: what checked_style asks -/
theorem sty_step {K : PySem.W.Frag} {H H3 : Hp} {S U : Addr} {sv : V} {R : Addr → Hp → Prop} (hs : StyAt K H S U sv) (t : ∀ H, SqT K H U [.int 0, .int 0, .int 0, .int 0]) (p : KeepS H H3)
    (k : ∀ (y dy : Addr) (st : List V) (H' : Hp), Same H3 H' → StyIs K H S U sv st → H' y = some (.ins S dy (styL st)) → st.length = 10 → (∀ H4, KeepS H H4 → OkL K H4 st) → R y H') :
    (sv = .non ∧ ∀ (y dy : Addr) H', Same H3 H' → H' y = some (.ins S dy (styL (dfltL U))) → R y H') ∨ ∃ (y dy : Addr) (st : List V), sv = .ref y ∧ H3 y = some (.ins S dy (styL st)) ∧ R y H3 := by
  rcases hs with rfl | ⟨y, dy, st, rfl, hy, ok⟩
  · exact .inl ⟨rfl, fun y dy H' s g => k y dy _ H' s (.inl ⟨rfl, rfl⟩) g rfl fun H4 _ => dflt_ok t⟩
  · exact .inr ⟨y, dy, st, rfl, p.sty ok.1 hy, k y dy st H3 (Same.refl _) (.inr ⟨y, dy, rfl, hy⟩) (p.sty ok.1 hy) ok.1 fun H4 q => q.okL ok⟩
theorem sty_ne {H : Hp} {x y S C dx dy : Addr} {st : List V} {fs : List (Str × V)} (gy : H y = some (.ins S dy (styL st))) (ok : st.length = 10) (gx : H x = some (.ins C dx fs)) (n : fs.length ≠ 10) : y ≠ x := by
  rintro rfl
  rw [gx] at gy
  cases gy
  exact n (by unfold styL; rw [List.length_zip, ok]; rfl)
/-- the boxes right in a box -/
def sp_held (bc : Kd → Addr) (S : Addr) (K : PySem.W.Frag) (kd : Kd) : Sp := fun vs H Q _ => ∃ t : At, vs = [.ref t.x] ∧ BoxAt bc S K H t ∧ t.own.kd = kd ∧ ∀ b H', Same H H' → H' b = some (.tup (refs t.kids)) → Q (.ref b) H'
def sp_held2 (bc : Kd → Addr) (S : Addr) (K : PySem.W.Frag) : Sp := fun vs H Q _ => ∃ t : At, vs = [.ref t.x] ∧ BoxAt bc S K H t ∧ (t.own.kd = .words ∨ t.own.kd = .picture) ∧ ∀ b H', Same H H' → H' b = some (.tup (refs t.kids)) → Q (.ref b) H'
theorem BoxAt.leaf {bc : Kd → Addr} {S : Addr} {K : PySem.W.Frag} {H : Hp} {t : At} (h : BoxAt bc S K H t) (k : t.own.kd = .words ∨ t.own.kd = .picture) : t.kids = [] := by
  cases h with
  | words hx hy ok hn ht => rfl
  | picture hx hy ok hn ha hd => rfl
  | row => rcases k with k | k <;> cases k
  | pile => rcases k with k | k <;> cases k
  | grid => rcases k with k | k <;> cases k
end My
namespace My
open PySem PySem.Spec PyProof.Rows L2
theorem kdct_mk {K : PySem.W.Frag} {w : World} {a C : Addr} {x : Str} {es : Array DictEntry} {n : Nat} (l : K.lookup a = some ⟨.type "dict", none, .dict es n, #[]⟩) (k : PySem.W.KeysLit w.params es.toList) (e : PySem.W.nsIn K a x = some (some (.ref C))) : KDct K w a x (.ref C) := ⟨es, n, _, l, k, e, rfl⟩
theorem ix_kdictK {X : Cx} {K : PySem.W.Frag} {w : World} (h : X.K = K) (hw : X.w = w) : IxR X (rIxD K w) := by subst h hw; exact ix_kdict
end My
namespace My
open PySem PySem.Spec PyProof.Rows L2
/-- a def with keyword-only defaults -/
def dfKs_mk {K : PySem.W.Frag} {mg : Str → Option Value} {x : Str} {st : Stmt} {ps : List Str} {kws : List (Str × V)} {h : Heap} (X : K.In h) (G : h.Ns mainGlobals mg) {f D : Addr} {oc : Value} {od an : Option Addr} {osl : Array (Option Value)} {doc pm cdv ct : Value} (n : Nat)
    (a : PySem.W.nsIn K mainGlobals x = some (some (.ref f))) (l : K.lookup f = some ⟨oc, od, .func (PySem.W.fnOf x x (defArgs st) (defBody st) (defScope st) .none (.ref D) doc pm an cdv ct), osl⟩)
    (c : PySem.W.codeIn K cdv x = true) (k : PySem.W.keepIn K (.ref f) = true) (kw : KwIn K D kws) (hk : kws ≠ []) (hn : n + kws.length = ps.length)
    (hb : ∀ (D : Addr) (doc pm : Value) (an : Option Addr) (cdv ct : Value) (us ks : List Value), us.length = n → ks.length = kws.length →
      KwChain D ((kws.map (·.1)).zip ks) (bindArgs (PySem.W.fnOf x x (defArgs st) (defBody st) (defScope st) .none (.ref D) doc pm an cdv ct) ⟨us, []⟩) (ps.zip (us ++ ks))) : DfK K mg x st ps kws :=
  have F : FunD K x x (defArgs st) (defBody st) (defScope st) [] kws f (PySem.W.fnOf x x (defArgs st) (defBody st) (defScope st) .none (.ref D) doc pm an cdv ct) := ⟨⟨oc, od, .none, .ref D, doc, pm, an, cdv, ct, osl, rfl, l, c, .inl ⟨rfl, rfl⟩, .inr ⟨D, rfl, kw.all⟩⟩, k⟩
  ⟨f, _, F, F.binds0 n hk hn hb, PySem.W.mg_of X G a⟩
end My
namespace My
open PySem PySem.Spec PyProof.Rows L2
/-- an __init__ without defaults -/
structure Ini0 (K : PySem.W.Frag) (q : Str) (st : Stmt) (C : Addr) (ps : List Str) where
  f : Addr
  fd : FuncData
  F : Fun K "__init__" q st f fd
  b : Binds K fd ps []
  mks : Mk K C f
def ini0_mk {K : PySem.W.Frag} {q : Str} {st : Stmt} {C : Addr} {ps : List Str} {f : Addr} {oc : Value} {od an : Option Addr} {osl : Array (Option Value)} {kV doc pm cdv ct : Value}
    (i : PySem.W.findIn K (.ref C) "__init__" = some (some (.ref f))) (m : PySem.W.makesIn K C = true) (fn : PySem.W.isFn K (.ref f) = true) (kc : PySem.W.keepIn K (.ref C) = true)
    (l : K.lookup f = some ⟨oc, od, .func (PySem.W.fnOf "__init__" q (defArgs st) (defBody st) (defScope st) .none kV doc pm an cdv ct), osl⟩) (c : PySem.W.codeIn K cdv q = true) (k : PySem.W.keepIn K (.ref f) = true)
    (hb : ∀ (kV doc pm : Value) (an : Option Addr) (cdv ct : Value) (us : List Value), us.length = ps.length → bindArgs (PySem.W.fnOf "__init__" q (defArgs st) (defBody st) (defScope st) .none kV doc pm an cdv ct) ⟨us, []⟩ = pure (ps.zip us)) : Ini0 K q st C ps :=
  ⟨f, _, fun_mk l c k, (fun_mk l c k).binds hb, ⟨m, i, fn, kc⟩⟩
end My

namespace My
open PySem PySem.Spec PyProof.Rows L2
def top (i : Nat) : Stmt := PySem.Challenge.pw_nestlaid_k22_names_and_holders.main.body.getD i (.Pass ⟨0, 0, 0, 0⟩)
abbrev s_NoText_init : Stmt := inClass (top 4) 0
abbrev N_NoText_init : List Str := ["self", "why", "line"]
theorem sc_NoText_init : FnScope N_NoText_init ["self", "why", "line"] (defScope s_NoText_init) := ⟨rfl, rfl, rfl, by decide +kernel, rfl, by decide +kernel, by decide +kernel⟩
abbrev s_is_whole : Stmt := top 16
abbrev N_is_whole : List Str := ["thing"]
theorem sc_is_whole : FnScope N_is_whole ["thing"] (defScope s_is_whole) := ⟨rfl, rfl, rfl, by decide +kernel, rfl, by decide +kernel, by decide +kernel⟩
abbrev s_is_count : Stmt := top 20
abbrev N_is_count : List Str := ["thing"]
theorem sc_is_count : FnScope N_is_count ["thing"] (defScope s_is_count) := ⟨rfl, rfl, rfl, by decide +kernel, rfl, by decide +kernel, by decide +kernel⟩
abbrev s_is_name : Stmt := top 21
abbrev N_is_name : List Str := ["thing", "sign"]
theorem sc_is_name : FnScope N_is_name ["thing"] (defScope s_is_name) := ⟨rfl, rfl, rfl, by decide +kernel, rfl, by decide +kernel, by decide +kernel⟩
abbrev s_is_share : Stmt := top 23
abbrev N_is_share : List Str := ["track"]
theorem sc_is_share : FnScope N_is_share ["track"] (defScope s_is_share) := ⟨rfl, rfl, rfl, by decide +kernel, rfl, by decide +kernel, by decide +kernel⟩
abbrev s_is_track : Stmt := top 24
abbrev N_is_track : List Str := ["thing"]
theorem sc_is_track : FnScope N_is_track ["thing"] (defScope s_is_track) := ⟨rfl, rfl, rfl, by decide +kernel, rfl, by decide +kernel, by decide +kernel⟩
abbrev s_are_tracks : Stmt := top 25
abbrev N_are_tracks : List Str := ["thing", "track"]
theorem sc_are_tracks : FnScope N_are_tracks ["thing"] (defScope s_are_tracks) := ⟨rfl, rfl, rfl, by decide +kernel, rfl, by decide +kernel, by decide +kernel⟩
abbrev s_is_stretch : Stmt := top 26
abbrev N_is_stretch : List Str := ["first", "many", "count"]
theorem sc_is_stretch : FnScope N_is_stretch ["first", "many", "count"] (defScope s_is_stretch) := ⟨rfl, rfl, rfl, by decide +kernel, rfl, by decide +kernel, by decide +kernel⟩
abbrev s_is_spot : Stmt := top 27
abbrev N_is_spot : List Str := ["thing", "columns", "rows"]
theorem sc_is_spot : FnScope N_is_spot ["thing", "columns", "rows"] (defScope s_is_spot) := ⟨rfl, rfl, rfl, by decide +kernel, rfl, by decide +kernel, by decide +kernel⟩
abbrev s_apart : Stmt := top 28
abbrev N_apart : List Str := ["one", "other", "aside"]
theorem sc_apart : FnScope N_apart ["one", "other"] (defScope s_apart) := ⟨rfl, rfl, rfl, by decide +kernel, rfl, by decide +kernel, by decide +kernel⟩
abbrev s_may_stand : Stmt := top 29
abbrev N_may_stand : List Str := ["spot", "spots", "columns", "rows", "one"]
theorem sc_may_stand : FnScope N_may_stand ["spot", "spots", "columns", "rows"] (defScope s_may_stand) := ⟨rfl, rfl, rfl, by decide +kernel, rfl, by decide +kernel, by decide +kernel⟩
abbrev s_are_spots : Stmt := top 30
abbrev N_are_spots : List Str := ["thing", "many", "columns", "rows", "at", "spot"]
theorem sc_are_spots : FnScope N_are_spots ["thing", "many", "columns", "rows"] (defScope s_are_spots) := ⟨rfl, rfl, rfl, by decide +kernel, rfl, by decide +kernel, by decide +kernel⟩
abbrev s_is_part : Stmt := top 35
abbrev N_is_part : List Str := ["size"]
theorem sc_is_part : FnScope N_is_part ["size"] (defScope s_is_part) := ⟨rfl, rfl, rfl, by decide +kernel, rfl, by decide +kernel, by decide +kernel⟩
abbrev s_is_tie : Stmt := top 36
abbrev N_is_tie : List Str := ["size"]
theorem sc_is_tie : FnScope N_is_tie ["size"] (defScope s_is_tie) := ⟨rfl, rfl, rfl, by decide +kernel, rfl, by decide +kernel, by decide +kernel⟩
abbrev s_is_size : Stmt := top 37
abbrev N_is_size : List Str := ["thing"]
theorem sc_is_size : FnScope N_is_size ["thing"] (defScope s_is_size) := ⟨rfl, rfl, rfl, by decide +kernel, rfl, by decide +kernel, by decide +kernel⟩
abbrev s_is_bound : Stmt := top 38
abbrev N_is_bound : List Str := ["thing"]
theorem sc_is_bound : FnScope N_is_bound ["thing"] (defScope s_is_bound) := ⟨rfl, rfl, rfl, by decide +kernel, rfl, by decide +kernel, by decide +kernel⟩
abbrev s_is_rims : Stmt := top 39
abbrev N_is_rims : List Str := ["thing", "rim"]
theorem sc_is_rims : FnScope N_is_rims ["thing"] (defScope s_is_rims) := ⟨rfl, rfl, rfl, by decide +kernel, rfl, by decide +kernel, by decide +kernel⟩
abbrev s_Style_init : Stmt := inClass (top 40) 0
abbrev N_Style_init : List Str := ["self", "wide", "high", "least_wide", "least_high", "most_wide", "most_high", "grow", "shrink", "rims", "stand", "sizes", "bounds", "one"]
theorem sc_Style_init : FnScope N_Style_init ["self", "wide", "high", "least_wide", "least_high", "most_wide", "most_high", "grow", "shrink", "rims", "stand"] (defScope s_Style_init) := ⟨rfl, rfl, rfl, by decide +kernel, rfl, by decide +kernel, by decide +kernel⟩
abbrev s_checked_name : Stmt := top 45
abbrev N_checked_name : List Str := ["name"]
theorem sc_checked_name : FnScope N_checked_name ["name"] (defScope s_checked_name) := ⟨rfl, rfl, rfl, by decide +kernel, rfl, by decide +kernel, by decide +kernel⟩
abbrev s_checked_style : Stmt := top 46
abbrev N_checked_style : List Str := ["style"]
theorem sc_checked_style : FnScope N_checked_style ["style"] (defScope s_checked_style) := ⟨rfl, rfl, rfl, by decide +kernel, rfl, by decide +kernel, by decide +kernel⟩
abbrev s_checked_boxes : Stmt := top 47
abbrev N_checked_boxes : List Str := ["boxes", "box"]
theorem sc_checked_boxes : FnScope N_checked_boxes ["boxes"] (defScope s_checked_boxes) := ⟨rfl, rfl, rfl, by decide +kernel, rfl, by decide +kernel, by decide +kernel⟩
abbrev s_checked_gap : Stmt := top 48
abbrev N_checked_gap : List Str := ["gap"]
theorem sc_checked_gap : FnScope N_checked_gap ["gap"] (defScope s_checked_gap) := ⟨rfl, rfl, rfl, by decide +kernel, rfl, by decide +kernel, by decide +kernel⟩
abbrev s_checked_pack : Stmt := top 49
abbrev N_checked_pack : List Str := ["pack"]
theorem sc_checked_pack : FnScope N_checked_pack ["pack"] (defScope s_checked_pack) := ⟨rfl, rfl, rfl, by decide +kernel, rfl, by decide +kernel, by decide +kernel⟩
abbrev s_checked_stands : Stmt := top 50
abbrev N_checked_stands : List Str := ["stands"]
theorem sc_checked_stands : FnScope N_checked_stands ["stands"] (defScope s_checked_stands) := ⟨rfl, rfl, rfl, by decide +kernel, rfl, by decide +kernel, by decide +kernel⟩
abbrev s_Box_held_boxes : Stmt := inClass (top 51) 0
abbrev N_Box_held_boxes : List Str := ["self"]
theorem sc_Box_held_boxes : FnScope N_Box_held_boxes ["self"] (defScope s_Box_held_boxes) := ⟨rfl, rfl, rfl, by decide +kernel, rfl, by decide +kernel, by decide +kernel⟩
abbrev s_Words_init : Stmt := inClass (top 52) 0
abbrev N_Words_init : List Str := ["self", "name", "text", "style"]
theorem sc_Words_init : FnScope N_Words_init ["self", "name", "text", "style"] (defScope s_Words_init) := ⟨rfl, rfl, rfl, by decide +kernel, rfl, by decide +kernel, by decide +kernel⟩
abbrev s_Picture_init : Stmt := inClass (top 53) 0
abbrev N_Picture_init : List Str := ["self", "name", "across", "down", "style", "size"]
theorem sc_Picture_init : FnScope N_Picture_init ["self", "name", "across", "down", "style"] (defScope s_Picture_init) := ⟨rfl, rfl, rfl, by decide +kernel, rfl, by decide +kernel, by decide +kernel⟩
abbrev s_Row_init : Stmt := inClass (top 54) 0
abbrev N_Row_init : List Str := ["self", "name", "boxes", "turn", "gap", "lane", "pack", "stands", "style"]
theorem sc_Row_init : FnScope N_Row_init ["self", "name", "boxes", "turn", "gap", "lane", "pack", "stands", "style"] (defScope s_Row_init) := ⟨rfl, rfl, rfl, by decide +kernel, rfl, by decide +kernel, by decide +kernel⟩
abbrev s_Row_held_boxes : Stmt := inClass (top 54) 1
abbrev N_Row_held_boxes : List Str := ["self"]
theorem sc_Row_held_boxes : FnScope N_Row_held_boxes ["self"] (defScope s_Row_held_boxes) := ⟨rfl, rfl, rfl, by decide +kernel, rfl, by decide +kernel, by decide +kernel⟩
abbrev s_Pile_init : Stmt := inClass (top 55) 0
abbrev N_Pile_init : List Str := ["self", "name", "boxes", "gap", "pack", "stands", "style"]
theorem sc_Pile_init : FnScope N_Pile_init ["self", "name", "boxes", "gap", "pack", "stands", "style"] (defScope s_Pile_init) := ⟨rfl, rfl, rfl, by decide +kernel, rfl, by decide +kernel, by decide +kernel⟩
abbrev s_Pile_held_boxes : Stmt := inClass (top 55) 1
abbrev N_Pile_held_boxes : List Str := ["self"]
theorem sc_Pile_held_boxes : FnScope N_Pile_held_boxes ["self"] (defScope s_Pile_held_boxes) := ⟨rfl, rfl, rfl, by decide +kernel, rfl, by decide +kernel, by decide +kernel⟩
abbrev s_Grid_init : Stmt := inClass (top 56) 0
abbrev N_Grid_init : List Str := ["self", "name", "boxes", "spots", "columns", "rows", "gap", "lane", "stands", "style"]
theorem sc_Grid_init : FnScope N_Grid_init ["self", "name", "boxes", "spots", "columns", "rows", "gap", "lane", "stands", "style"] (defScope s_Grid_init) := ⟨rfl, rfl, rfl, by decide +kernel, rfl, by decide +kernel, by decide +kernel⟩
abbrev s_Grid_held_boxes : Stmt := inClass (top 56) 1
abbrev N_Grid_held_boxes : List Str := ["self"]
theorem sc_Grid_held_boxes : FnScope N_Grid_held_boxes ["self"] (defScope s_Grid_held_boxes) := ⟨rfl, rfl, rfl, by decide +kernel, rfl, by decide +kernel, by decide +kernel⟩
abbrev s_add_boxes : Stmt := top 58
abbrev N_add_boxes : List Str := ["box", "holder", "found", "one"]
theorem sc_add_boxes : FnScope N_add_boxes ["box", "holder", "found"] (defScope s_add_boxes) := ⟨rfl, rfl, rfl, by decide +kernel, rfl, by decide +kernel, by decide +kernel⟩
abbrev s_told_sizes : Stmt := top 59
abbrev N_told_sizes : List Str := ["box"]
theorem sc_told_sizes : FnScope N_told_sizes ["box"] (defScope s_told_sizes) := ⟨rfl, rfl, rfl, by decide +kernel, rfl, by decide +kernel, by decide +kernel⟩
abbrev s_Nest_init : Stmt := inClass (top 60) 0
abbrev N_Nest_init : List Str := ["self", "tree", "found", "box", "holder", "size"]
theorem sc_Nest_init : FnScope N_Nest_init ["self", "tree"] (defScope s_Nest_init) := ⟨rfl, rfl, rfl, by decide +kernel, rfl, by decide +kernel, by decide +kernel⟩
abbrev s_Nest_named : Stmt := inClass (top 60) 1
abbrev N_Nest_named : List Str := ["self", "name"]
theorem sc_Nest_named : FnScope N_Nest_named ["self", "name"] (defScope s_Nest_named) := ⟨rfl, rfl, rfl, by decide +kernel, rfl, by decide +kernel, by decide +kernel⟩
abbrev s_names_of : Stmt := top 61
abbrev N_names_of : List Str := ["tree"]
theorem sc_names_of : FnScope N_names_of ["tree"] (defScope s_names_of) := ⟨rfl, rfl, rfl, by decide +kernel, rfl, by decide +kernel, by decide +kernel⟩
abbrev s_box_of : Stmt := top 62
abbrev N_box_of : List Str := ["tree", "name"]
theorem sc_box_of : FnScope N_box_of ["tree", "name"] (defScope s_box_of) := ⟨rfl, rfl, rfl, by decide +kernel, rfl, by decide +kernel, by decide +kernel⟩
abbrev s_holder_of : Stmt := top 63
abbrev N_holder_of : List Str := ["tree", "name", "nest"]
theorem sc_holder_of : FnScope N_holder_of ["tree", "name"] (defScope s_holder_of) := ⟨rfl, rfl, rfl, by decide +kernel, rfl, by decide +kernel, by decide +kernel⟩
abbrev s_w_cell_at : Stmt := top 65
abbrev N_w_cell_at : List Str := ["_law_script", "_law_k"]
theorem sc_w_cell_at : FnScope N_w_cell_at ["_law_script", "_law_k"] (defScope s_w_cell_at) := ⟨rfl, rfl, rfl, by decide +kernel, rfl, by decide +kernel, by decide +kernel⟩
abbrev s_w_mixed : Stmt := top 66
abbrev N_w_mixed : List Str := ["_law_cell", "_law_k", "_law_number_here"]
theorem sc_w_mixed : FnScope N_w_mixed ["_law_cell", "_law_k"] (defScope s_w_mixed) := ⟨rfl, rfl, rfl, by decide +kernel, rfl, by decide +kernel, by decide +kernel⟩
abbrev s_w_source : Stmt := top 67
abbrev N_w_source : List Str := ["_law_cell"]
theorem sc_w_source : FnScope N_w_source ["_law_cell"] (defScope s_w_source) := ⟨rfl, rfl, rfl, by decide +kernel, rfl, by decide +kernel, by decide +kernel⟩
abbrev s_w_next : Stmt := top 68
abbrev N_w_next : List Str := ["_law_source_here", "_law_many", "_law_found"]
theorem sc_w_next : FnScope N_w_next ["_law_source_here", "_law_many"] (defScope s_w_next) := ⟨rfl, rfl, rfl, by decide +kernel, rfl, by decide +kernel, by decide +kernel⟩
abbrev s_w_letters : Stmt := top 69
abbrev N_w_letters : List Str := ["_law_number_here", "_law_signs_here"]
theorem sc_w_letters : FnScope N_w_letters ["_law_number_here"] (defScope s_w_letters) := ⟨rfl, rfl, rfl, by decide +kernel, rfl, by decide +kernel, by decide +kernel⟩
abbrev s_w_name : Stmt := top 70
abbrev N_w_name : List Str := ["_law_source_here", "_law_known", "_law_words", "_law_way", "_law_number_here"]
theorem sc_w_name : FnScope N_w_name ["_law_source_here", "_law_known"] (defScope s_w_name) := ⟨rfl, rfl, rfl, by decide +kernel, rfl, by decide +kernel, by decide +kernel⟩
abbrev s_w_number : Stmt := top 71
abbrev N_w_number : List Str := ["_law_source_here"]
theorem sc_w_number : FnScope N_w_number ["_law_source_here"] (defScope s_w_number) := ⟨rfl, rfl, rfl, by decide +kernel, rfl, by decide +kernel, by decide +kernel⟩
abbrev s_w_signs : Stmt := top 72
abbrev N_w_signs : List Str := ["_law_source_here", "_law_some", "_law_signs_here", "_law_k"]
theorem sc_w_signs : FnScope N_w_signs ["_law_source_here"] (defScope s_w_signs) := ⟨rfl, rfl, rfl, by decide +kernel, rfl, by decide +kernel, by decide +kernel⟩
abbrev s_w_track : Stmt := top 73
abbrev N_w_track : List Str := ["_law_source_here"]
theorem sc_w_track : FnScope N_w_track ["_law_source_here"] (defScope s_w_track) := ⟨rfl, rfl, rfl, by decide +kernel, rfl, by decide +kernel, by decide +kernel⟩
abbrev s_w_own : Stmt := top 74
abbrev N_w_own : List Str := ["_law_source_here", "_law_kind", "_law_one", "_law_other", "_law_pose", "_law_folded", "_law_tops", "_law_sides", "_law_k"]
theorem sc_w_own : FnScope N_w_own ["_law_source_here", "_law_kind"] (defScope s_w_own) := ⟨rfl, rfl, rfl, by decide +kernel, rfl, by decide +kernel, by decide +kernel⟩
abbrev s_w_box : Stmt := top 75
abbrev N_w_box : List Str := ["_law_source_here", "_law_known", "_law_kind", "_law_name_here"]
theorem sc_w_box : FnScope N_w_box ["_law_source_here", "_law_known"] (defScope s_w_box) := ⟨rfl, rfl, rfl, by decide +kernel, rfl, by decide +kernel, by decide +kernel⟩
abbrev s_w_meet : Stmt := top 76
abbrev N_w_meet : List Str := ["_law_one", "_law_other", "_law_across"]
theorem sc_w_meet : FnScope N_w_meet ["_law_one", "_law_other"] (defScope s_w_meet) := ⟨rfl, rfl, rfl, by decide +kernel, rfl, by decide +kernel, by decide +kernel⟩
abbrev s_w_spot : Stmt := top 77
abbrev N_w_spot : List Str := ["_law_source_here", "_law_grid", "_law_cells", "_law_tops", "_law_sides", "_law_free", "_law_x", "_law_y", "_law_many", "_law_deep", "_law_one", "_law_plot"]
theorem sc_w_spot : FnScope N_w_spot ["_law_source_here", "_law_grid"] (defScope s_w_spot) := ⟨rfl, rfl, rfl, by decide +kernel, rfl, by decide +kernel, by decide +kernel⟩
abbrev s_w_into : Stmt := top 78
abbrev N_w_into : List Str := ["_law_source_here", "_law_holder", "_law_box_here", "_law_at", "_law_plot"]
theorem sc_w_into : FnScope N_w_into ["_law_source_here", "_law_holder", "_law_box_here"] (defScope s_w_into) := ⟨rfl, rfl, rfl, by decide +kernel, rfl, by decide +kernel, by decide +kernel⟩
abbrev s_w_size : Stmt := top 79
abbrev N_w_size : List Str := ["_law_source_here", "_law_names", "_law_first", "_law_way", "_law_side"]
theorem sc_w_size : FnScope N_w_size ["_law_source_here", "_law_names", "_law_first"] (defScope s_w_size) := ⟨rfl, rfl, rfl, by decide +kernel, rfl, by decide +kernel, by decide +kernel⟩
abbrev s_w_field : Stmt := top 80
abbrev N_w_field : List Str := ["_law_source_here", "_law_at", "_law_names", "_law_first", "_law_k"]
theorem sc_w_field : FnScope N_w_field ["_law_source_here", "_law_at", "_law_names", "_law_first"] (defScope s_w_field) := ⟨rfl, rfl, rfl, by decide +kernel, rfl, by decide +kernel, by decide +kernel⟩
abbrev s_w_tree : Stmt := top 81
abbrev N_w_tree : List Str := ["_law_source_here", "_law_many", "_law_known", "_law_boxes", "_law_deep", "_law_k", "_law_holders", "_law_at", "_law_box_here", "_law_names", "_law_j"]
theorem sc_w_tree : FnScope N_w_tree ["_law_source_here", "_law_many"] (defScope s_w_tree) := ⟨rfl, rfl, rfl, by decide +kernel, rfl, by decide +kernel, by decide +kernel⟩
abbrev s_w_look : Stmt := top 82
abbrev N_w_look : List Str := ["_law_values", "_law_one", "_law_two", "_law_three", "_law_four", "_law_five", "_law_six", "_law_seven", "_law_eight", "_law_nine", "_law_ten"]
theorem sc_w_look : FnScope N_w_look ["_law_values"] (defScope s_w_look) := ⟨rfl, rfl, rfl, by decide +kernel, rfl, by decide +kernel, by decide +kernel⟩
abbrev s_w_made : Stmt := top 83
abbrev N_w_made : List Str := ["_law_box_here", "_law_kind", "_law_name_here", "_law_values", "_law_own_here", "_law_inner", "_law_look_here", "_law_inside", "_law_one"]
theorem sc_w_made : FnScope N_w_made ["_law_box_here"] (defScope s_w_made) := ⟨rfl, rfl, rfl, by decide +kernel, rfl, by decide +kernel, by decide +kernel⟩
abbrev s_w_told : Stmt := top 84
abbrev N_w_told : List Str := ["_law_box_here", "_law_look_here", "_law_values", "_law_inner", "_law_own_here", "_law_one"]
theorem sc_w_told : FnScope N_w_told ["_law_box_here"] (defScope s_w_told) := ⟨rfl, rfl, rfl, by decide +kernel, rfl, by decide +kernel, by decide +kernel⟩
abbrev s_w_order : Stmt := top 85
abbrev N_w_order : List Str := ["_law_box_here", "_law_holder", "_law_found", "_law_one"]
theorem sc_w_order : FnScope N_w_order ["_law_box_here", "_law_holder"] (defScope s_w_order) := ⟨rfl, rfl, rfl, by decide +kernel, rfl, by decide +kernel, by decide +kernel⟩
abbrev s_w_refused : Stmt := top 86
abbrev N_w_refused : List Str := ["_law_ask", "_law_tree_here", "_law_thing", "e", "_law_marks"]
theorem sc_w_refused : FnScope N_w_refused ["_law_ask", "_law_tree_here", "_law_thing"] (defScope s_w_refused) := ⟨rfl, rfl, rfl, by decide +kernel, rfl, by decide +kernel, by decide +kernel⟩
abbrev s_w_strange : Stmt := top 87
abbrev N_w_strange : List Str := ["_law_source_here", "_law_names", "_law_made_here", "_law_word", "_law_some", "_law_thing"]
theorem sc_w_strange : FnScope N_w_strange ["_law_source_here", "_law_names", "_law_made_here"] (defScope s_w_strange) := ⟨rfl, rfl, rfl, by decide +kernel, rfl, by decide +kernel, by decide +kernel⟩
abbrev s_w_right : Stmt := top 88
abbrev N_w_right : List Str := ["_law_tree_here", "_law_made_here", "_law_pairs", "_law_box_here", "_law_holder", "_law_names", "_law_told_here", "_law_name_here"]
theorem sc_w_right : FnScope N_w_right ["_law_tree_here", "_law_made_here"] (defScope s_w_right) := ⟨rfl, rfl, rfl, by decide +kernel, rfl, by decide +kernel, by decide +kernel⟩
abbrev s_law : Stmt := top 89
abbrev N_law : List Str := ["_law_script", "_law_source_here", "_law_many", "_law_tree_here", "_law_made_here", "_law_names", "_law_k", "_law_strange_here", "_law_thing", "_law_other", "_law_box_here", "_law_holder"]
theorem sc_law : FnScope N_law ["_law_script"] (defScope s_law) := ⟨rfl, rfl, rfl, by decide +kernel, rfl, by decide +kernel, by decide +kernel⟩
structure Tx (w : World) (K : PySem.W.Frag) (mg : Str → Option Value) where
  U_NO_RIMS : Addr
  U_SIDES : Addr
  U_STANDS : Addr
  U_PACKS : Addr
  U_LETTERS : Value
  U_LONGEST : Value
  c_Style : Cl K mg "Style"
  n_Style_wide : PySem.W.findIn K (.ref c_Style.C) "wide" = some none
  n_Style_high : PySem.W.findIn K (.ref c_Style.C) "high" = some none
  n_Style_least_wide : PySem.W.findIn K (.ref c_Style.C) "least_wide" = some none
  n_Style_least_high : PySem.W.findIn K (.ref c_Style.C) "least_high" = some none
  n_Style_most_wide : PySem.W.findIn K (.ref c_Style.C) "most_wide" = some none
  n_Style_most_high : PySem.W.findIn K (.ref c_Style.C) "most_high" = some none
  n_Style_grow : PySem.W.findIn K (.ref c_Style.C) "grow" = some none
  n_Style_shrink : PySem.W.findIn K (.ref c_Style.C) "shrink" = some none
  n_Style_rims : PySem.W.findIn K (.ref c_Style.C) "rims" = some none
  n_Style_stand : PySem.W.findIn K (.ref c_Style.C) "stand" = some none
  c_Box : Cl K mg "Box"
  c_Words : Cl K mg "Words"
  n_Words_name : PySem.W.findIn K (.ref c_Words.C) "name" = some none
  n_Words_text : PySem.W.findIn K (.ref c_Words.C) "text" = some none
  n_Words_style : PySem.W.findIn K (.ref c_Words.C) "style" = some none
  c_Picture : Cl K mg "Picture"
  n_Picture_name : PySem.W.findIn K (.ref c_Picture.C) "name" = some none
  n_Picture_across : PySem.W.findIn K (.ref c_Picture.C) "across" = some none
  n_Picture_down : PySem.W.findIn K (.ref c_Picture.C) "down" = some none
  n_Picture_style : PySem.W.findIn K (.ref c_Picture.C) "style" = some none
  c_Row : Cl K mg "Row"
  n_Row_name : PySem.W.findIn K (.ref c_Row.C) "name" = some none
  n_Row_boxes : PySem.W.findIn K (.ref c_Row.C) "boxes" = some none
  n_Row_turn : PySem.W.findIn K (.ref c_Row.C) "turn" = some none
  n_Row_gap : PySem.W.findIn K (.ref c_Row.C) "gap" = some none
  n_Row_lane : PySem.W.findIn K (.ref c_Row.C) "lane" = some none
  n_Row_pack : PySem.W.findIn K (.ref c_Row.C) "pack" = some none
  n_Row_stands : PySem.W.findIn K (.ref c_Row.C) "stands" = some none
  n_Row_style : PySem.W.findIn K (.ref c_Row.C) "style" = some none
  c_Pile : Cl K mg "Pile"
  n_Pile_name : PySem.W.findIn K (.ref c_Pile.C) "name" = some none
  n_Pile_boxes : PySem.W.findIn K (.ref c_Pile.C) "boxes" = some none
  n_Pile_gap : PySem.W.findIn K (.ref c_Pile.C) "gap" = some none
  n_Pile_pack : PySem.W.findIn K (.ref c_Pile.C) "pack" = some none
  n_Pile_stands : PySem.W.findIn K (.ref c_Pile.C) "stands" = some none
  n_Pile_style : PySem.W.findIn K (.ref c_Pile.C) "style" = some none
  c_Grid : Cl K mg "Grid"
  n_Grid_name : PySem.W.findIn K (.ref c_Grid.C) "name" = some none
  n_Grid_boxes : PySem.W.findIn K (.ref c_Grid.C) "boxes" = some none
  n_Grid_columns : PySem.W.findIn K (.ref c_Grid.C) "columns" = some none
  n_Grid_rows : PySem.W.findIn K (.ref c_Grid.C) "rows" = some none
  n_Grid_spots : PySem.W.findIn K (.ref c_Grid.C) "spots" = some none
  n_Grid_gap : PySem.W.findIn K (.ref c_Grid.C) "gap" = some none
  n_Grid_lane : PySem.W.findIn K (.ref c_Grid.C) "lane" = some none
  n_Grid_stands : PySem.W.findIn K (.ref c_Grid.C) "stands" = some none
  n_Grid_style : PySem.W.findIn K (.ref c_Grid.C) "style" = some none
  c_Nest : Cl K mg "Nest"
  n_Nest_order : PySem.W.findIn K (.ref c_Nest.C) "order" = some none
  n_Nest_box_by : PySem.W.findIn K (.ref c_Nest.C) "box_by" = some none
  n_Nest_holder_by : PySem.W.findIn K (.ref c_Nest.C) "holder_by" = some none
  d_is_whole : Df K mg "is_whole" s_is_whole ["thing"]
  d_is_count : Df K mg "is_count" s_is_count ["thing"]
  d_is_name : Df K mg "is_name" s_is_name ["thing"]
  d_is_share : Df K mg "is_share" s_is_share ["track"]
  d_is_track : Df K mg "is_track" s_is_track ["thing"]
  d_are_tracks : Df K mg "are_tracks" s_are_tracks ["thing"]
  d_is_stretch : Df K mg "is_stretch" s_is_stretch ["first", "many", "count"]
  d_is_spot : Df K mg "is_spot" s_is_spot ["thing", "columns", "rows"]
  d_apart : Df K mg "apart" s_apart ["one", "other"]
  d_may_stand : Df K mg "may_stand" s_may_stand ["spot", "spots", "columns", "rows"]
  d_are_spots : Df K mg "are_spots" s_are_spots ["thing", "many", "columns", "rows"]
  d_is_part : Df K mg "is_part" s_is_part ["size"]
  d_is_tie : Df K mg "is_tie" s_is_tie ["size"]
  d_is_size : Df K mg "is_size" s_is_size ["thing"]
  d_is_bound : Df K mg "is_bound" s_is_bound ["thing"]
  d_is_rims : Df K mg "is_rims" s_is_rims ["thing"]
  d_Style_init : Ini K "Style.__init__" s_Style_init c_Style.C [("wide", .non), ("high", .non), ("least_wide", .non), ("least_high", .non), ("most_wide", .non), ("most_high", .non), ("grow", .int 0), ("shrink", .int 1), ("rims", .ref U_NO_RIMS), ("stand", .non)]
  d_checked_name : Df K mg "checked_name" s_checked_name ["name"]
  d_checked_style : Df K mg "checked_style" s_checked_style ["style"]
  d_checked_boxes : Df K mg "checked_boxes" s_checked_boxes ["boxes"]
  d_checked_gap : Df K mg "checked_gap" s_checked_gap ["gap"]
  d_checked_pack : Df K mg "checked_pack" s_checked_pack ["pack"]
  d_checked_stands : Df K mg "checked_stands" s_checked_stands ["stands"]
  d_Box_held_boxes : Mt K "held_boxes" "Box.held_boxes" s_Box_held_boxes c_Box.C ["self"]
  d_Words_init : Ini K "Words.__init__" s_Words_init c_Words.C [("style", .non)]
  d_Picture_init : Ini K "Picture.__init__" s_Picture_init c_Picture.C [("style", .non)]
  d_Row_init : Ini K "Row.__init__" s_Row_init c_Row.C [("turn", .bl false), ("gap", .int 0), ("lane", .int 0), ("pack", .str (Str.ofString "start")), ("stands", .str (Str.ofString "stretch")), ("style", .non)]
  d_Row_held_boxes : Mt K "held_boxes" "Row.held_boxes" s_Row_held_boxes c_Row.C ["self"]
  d_Pile_init : Ini K "Pile.__init__" s_Pile_init c_Pile.C [("gap", .int 0), ("pack", .str (Str.ofString "start")), ("stands", .str (Str.ofString "stretch")), ("style", .non)]
  d_Pile_held_boxes : Mt K "held_boxes" "Pile.held_boxes" s_Pile_held_boxes c_Pile.C ["self"]
  d_Grid_init : Ini K "Grid.__init__" s_Grid_init c_Grid.C [("gap", .int 0), ("lane", .int 0), ("stands", .str (Str.ofString "stretch")), ("style", .non)]
  d_Grid_held_boxes : Mt K "held_boxes" "Grid.held_boxes" s_Grid_held_boxes c_Grid.C ["self"]
  d_add_boxes : Df K mg "add_boxes" s_add_boxes ["box", "holder", "found"]
  d_told_sizes : Df K mg "told_sizes" s_told_sizes ["box"]
  d_Nest_init : Ini0 K "Nest.__init__" s_Nest_init c_Nest.C ["self", "tree"]
  d_Nest_named : Mt K "named" "Nest.named" s_Nest_named c_Nest.C ["self", "name"]
  d_names_of : Df K mg "names_of" s_names_of ["tree"]
  d_box_of : Df K mg "box_of" s_box_of ["tree", "name"]
  d_holder_of : Df K mg "holder_of" s_holder_of ["tree", "name"]
  d_w_cell_at : Df K mg "_law_cell_at" s_w_cell_at ["_law_script", "_law_k"]
  d_w_mixed : Df K mg "_law_mixed" s_w_mixed ["_law_cell", "_law_k"]
  d_w_source : Df K mg "_law_source" s_w_source ["_law_cell"]
  d_w_next : Df K mg "_law_next" s_w_next ["_law_source_here", "_law_many"]
  d_w_letters : Df K mg "_law_letters" s_w_letters ["_law_number_here"]
  d_w_name : Df K mg "_law_name" s_w_name ["_law_source_here", "_law_known"]
  d_w_number : Df K mg "_law_number" s_w_number ["_law_source_here"]
  d_w_signs : Df K mg "_law_signs" s_w_signs ["_law_source_here"]
  d_w_track : Df K mg "_law_track" s_w_track ["_law_source_here"]
  d_w_own : Df K mg "_law_own" s_w_own ["_law_source_here", "_law_kind"]
  d_w_box : Df K mg "_law_box" s_w_box ["_law_source_here", "_law_known"]
  d_w_meet : Df K mg "_law_meet" s_w_meet ["_law_one", "_law_other"]
  d_w_spot : Df K mg "_law_spot" s_w_spot ["_law_source_here", "_law_grid"]
  d_w_into : Df K mg "_law_into" s_w_into ["_law_source_here", "_law_holder", "_law_box_here"]
  d_w_size : Df K mg "_law_size" s_w_size ["_law_source_here", "_law_names", "_law_first"]
  d_w_field : Df K mg "_law_field" s_w_field ["_law_source_here", "_law_at", "_law_names", "_law_first"]
  d_w_tree : Df K mg "_law_tree" s_w_tree ["_law_source_here", "_law_many"]
  d_w_look : Df K mg "_law_look" s_w_look ["_law_values"]
  d_w_made : Df K mg "_law_made" s_w_made ["_law_box_here"]
  d_w_told : Df K mg "_law_told" s_w_told ["_law_box_here"]
  d_w_order : Df K mg "_law_order" s_w_order ["_law_box_here", "_law_holder"]
  d_w_refused : Df K mg "_law_refused" s_w_refused ["_law_ask", "_law_tree_here", "_law_thing"]
  d_w_strange : Df K mg "_law_strange" s_w_strange ["_law_source_here", "_law_names", "_law_made_here"]
  d_w_right : Df K mg "_law_right" s_w_right ["_law_tree_here", "_law_made_here"]
  d_law : Df K mg "law" s_law ["_law_script"]
  b_ValueError : mg "ValueError" = none
  b_all : mg "all" = none
  b_any : mg "any" = none
  b_bool : mg "bool" = none
  b_enumerate : mg "enumerate" = none
  b_int : mg "int" = none
  b_isinstance : mg "isinstance" = none
  b_len : mg "len" = none
  b_list : mg "list" = none
  b_max : mg "max" = none
  b_min : mg "min" = none
  b_range : mg "range" = none
  b_str : mg "str" = none
  b_tuple : mg "tuple" = none
  v_SIDES : mg "SIDES" = some (.ref U_SIDES)
  v_STANDS : mg "STANDS" = some (.ref U_STANDS)
  v_PACKS : mg "PACKS" = some (.ref U_PACKS)
  v_LETTERS : mg "LETTERS" = some (U_LETTERS)
  v_LONGEST : mg "LONGEST" = some (U_LONGEST)
  t_NO_RIMS : ∀ H, SqT K H U_NO_RIMS [.int 0, .int 0, .int 0, .int 0]
  t_SIDES : ∀ H, SqT K H U_SIDES [.str (Str.ofString "wide"), .str (Str.ofString "tall")]
  t_STANDS : ∀ H, SqT K H U_STANDS [.str (Str.ofString "start"), .str (Str.ofString "end"), .str (Str.ofString "middle"), .str (Str.ofString "stretch"), .str (Str.ofString "base")]
  t_PACKS : ∀ H, SqT K H U_PACKS [.str (Str.ofString "start"), .str (Str.ofString "end"), .str (Str.ofString "middle"), .str (Str.ofString "between")]
  r_LETTERS : RelV (.str (Str.ofString "abcdefghijklmnopqrstuvwxyz")) U_LETTERS
  r_LONGEST : RelV (.int 8) U_LONGEST
  wg : PySem.W.specialIn K (.builtin "object.__class__") "__get__" = some (some (.builtin "getset_descriptor.__get__"))
  wt : PySem.W.takesIn K (.builtin "object.__class__") = some true
  wc_Words : PySem.W.findIn K (.ref c_Words.C) "__class__" = some (some (.builtin "object.__class__"))
  wm_Words : PySem.W.mroIn K c_Words.C (.type "object") = some true
  wc_Picture : PySem.W.findIn K (.ref c_Picture.C) "__class__" = some (some (.builtin "object.__class__"))
  wm_Picture : PySem.W.mroIn K c_Picture.C (.type "object") = some true
  wc_Row : PySem.W.findIn K (.ref c_Row.C) "__class__" = some (some (.builtin "object.__class__"))
  wm_Row : PySem.W.mroIn K c_Row.C (.type "object") = some true
  wc_Pile : PySem.W.findIn K (.ref c_Pile.C) "__class__" = some (some (.builtin "object.__class__"))
  wm_Pile : PySem.W.mroIn K c_Pile.C (.type "object") = some true
  wc_Grid : PySem.W.findIn K (.ref c_Grid.C) "__class__" = some (some (.builtin "object.__class__"))
  wm_Grid : PySem.W.mroIn K c_Grid.C (.type "object") = some true
  wc_Style : PySem.W.findIn K (.ref c_Style.C) "__class__" = some (some (.builtin "object.__class__"))
  wm_Style : PySem.W.mroIn K c_Style.C (.type "object") = some true
  kb_Words : PySem.W.kitOne K (.ref c_Words.C) (.ref c_Box.C) = some true
  ki_Words_Words : PySem.W.kitOne K (.ref c_Words.C) (.ref c_Words.C) = some true
  ki_Words_Picture : PySem.W.kitOne K (.ref c_Words.C) (.ref c_Picture.C) = some false
  ki_Words_Row : PySem.W.kitOne K (.ref c_Words.C) (.ref c_Row.C) = some false
  ki_Words_Pile : PySem.W.kitOne K (.ref c_Words.C) (.ref c_Pile.C) = some false
  ki_Words_Grid : PySem.W.kitOne K (.ref c_Words.C) (.ref c_Grid.C) = some false
  kb_Picture : PySem.W.kitOne K (.ref c_Picture.C) (.ref c_Box.C) = some true
  ki_Picture_Words : PySem.W.kitOne K (.ref c_Picture.C) (.ref c_Words.C) = some false
  ki_Picture_Picture : PySem.W.kitOne K (.ref c_Picture.C) (.ref c_Picture.C) = some true
  ki_Picture_Row : PySem.W.kitOne K (.ref c_Picture.C) (.ref c_Row.C) = some false
  ki_Picture_Pile : PySem.W.kitOne K (.ref c_Picture.C) (.ref c_Pile.C) = some false
  ki_Picture_Grid : PySem.W.kitOne K (.ref c_Picture.C) (.ref c_Grid.C) = some false
  kb_Row : PySem.W.kitOne K (.ref c_Row.C) (.ref c_Box.C) = some true
  ki_Row_Words : PySem.W.kitOne K (.ref c_Row.C) (.ref c_Words.C) = some false
  ki_Row_Picture : PySem.W.kitOne K (.ref c_Row.C) (.ref c_Picture.C) = some false
  ki_Row_Row : PySem.W.kitOne K (.ref c_Row.C) (.ref c_Row.C) = some true
  ki_Row_Pile : PySem.W.kitOne K (.ref c_Row.C) (.ref c_Pile.C) = some false
  ki_Row_Grid : PySem.W.kitOne K (.ref c_Row.C) (.ref c_Grid.C) = some false
  kb_Pile : PySem.W.kitOne K (.ref c_Pile.C) (.ref c_Box.C) = some true
  ki_Pile_Words : PySem.W.kitOne K (.ref c_Pile.C) (.ref c_Words.C) = some false
  ki_Pile_Picture : PySem.W.kitOne K (.ref c_Pile.C) (.ref c_Picture.C) = some false
  ki_Pile_Row : PySem.W.kitOne K (.ref c_Pile.C) (.ref c_Row.C) = some false
  ki_Pile_Pile : PySem.W.kitOne K (.ref c_Pile.C) (.ref c_Pile.C) = some true
  ki_Pile_Grid : PySem.W.kitOne K (.ref c_Pile.C) (.ref c_Grid.C) = some false
  kb_Grid : PySem.W.kitOne K (.ref c_Grid.C) (.ref c_Box.C) = some true
  ki_Grid_Words : PySem.W.kitOne K (.ref c_Grid.C) (.ref c_Words.C) = some false
  ki_Grid_Picture : PySem.W.kitOne K (.ref c_Grid.C) (.ref c_Picture.C) = some false
  ki_Grid_Row : PySem.W.kitOne K (.ref c_Grid.C) (.ref c_Row.C) = some false
  ki_Grid_Pile : PySem.W.kitOne K (.ref c_Grid.C) (.ref c_Pile.C) = some false
  ki_Grid_Grid : PySem.W.kitOne K (.ref c_Grid.C) (.ref c_Grid.C) = some true
  ki_Style : PySem.W.kitOne K (.ref c_Style.C) (.ref c_Style.C) = some true
  mh_Words : PySem.W.findIn K (.ref c_Words.C) "held_boxes" = some (some (.ref d_Box_held_boxes.f))
  mh_Picture : PySem.W.findIn K (.ref c_Picture.C) "held_boxes" = some (some (.ref d_Box_held_boxes.f))
  e_NestError : Ex K mg "NestError"
  e_NoName : Ex K mg "NoName"
  r_NoName : PySem.W.subIn K (.ref e_NoName.C) (.ref e_NestError.C) = some true
  s_NoName : PySem.W.subIn K (.ref e_NoName.C) (.ref e_NoName.C) = some true
  v_NoName : PySem.W.subIn K (.ref e_NoName.C) (.type "ValueError") = some true
  e_NoTree : Ec K mg "NoTree"
  i_NoTree : PySem.W.subIn K (.ref e_NoName.C) (.ref e_NoTree.C) = some false
  e_NoWord : Ec K mg "NoWord"
  i_NoWord : PySem.W.subIn K (.ref e_NoName.C) (.ref e_NoWord.C) = some false
  e_NoBox : Ec K mg "NoBox"
  i_NoBox : PySem.W.subIn K (.ref e_NoName.C) (.ref e_NoBox.C) = some false
  ks_Words : PySem.W.subIn K (.ref c_Words.C) (.type "str") = some false
  ks_Picture : PySem.W.subIn K (.ref c_Picture.C) (.type "str") = some false
  ks_Row : PySem.W.subIn K (.ref c_Row.C) (.type "str") = some false
  ks_Pile : PySem.W.subIn K (.ref c_Pile.C) (.type "str") = some false
  ks_Grid : PySem.W.subIn K (.ref c_Grid.C) (.type "str") = some false
section
variable {w : World} {K : PySem.W.Frag} {mg : Str → Option Value}
def bcT (T : Tx w K mg) : Kd → Addr
  | .words => T.c_Words.C
  | .picture => T.c_Picture.C
  | .row => T.c_Row.C
  | .pile => T.c_Pile.C
  | .grid => T.c_Grid.C
theorem kdT (T : Tx w K mg) : KdF K (bcT T) T.c_Box.C where
  cl := fun k => match k with | .words => T.c_Words.cls | .picture => T.c_Picture.cls | .row => T.c_Row.cls | .pile => T.c_Pile.cls | .grid => T.c_Grid.cls
  wc := fun k => match k with | .words => T.wc_Words | .picture => T.wc_Picture | .row => T.wc_Row | .pile => T.wc_Pile | .grid => T.wc_Grid
  wm := fun k => match k with | .words => T.wm_Words | .picture => T.wm_Picture | .row => T.wm_Row | .pile => T.wm_Pile | .grid => T.wm_Grid
  box := fun k => match k with | .words => T.kb_Words | .picture => T.kb_Picture | .row => T.kb_Row | .pile => T.kb_Pile | .grid => T.kb_Grid
  nm := fun k => match k with | .words => T.n_Words_name | .picture => T.n_Picture_name | .row => T.n_Row_name | .pile => T.n_Pile_name | .grid => T.n_Grid_name
  sy := fun k => match k with | .words => T.n_Words_style | .picture => T.n_Picture_style | .row => T.n_Row_style | .pile => T.n_Pile_style | .grid => T.n_Grid_style
  wg := T.wg
  wt := T.wt
  is_ := fun k j => match k, j with | .words, .words => T.ki_Words_Words | .words, .picture => T.ki_Words_Picture | .words, .row => T.ki_Words_Row | .words, .pile => T.ki_Words_Pile | .words, .grid => T.ki_Words_Grid | .picture, .words => T.ki_Picture_Words | .picture, .picture => T.ki_Picture_Picture | .picture, .row => T.ki_Picture_Row | .picture, .pile => T.ki_Picture_Pile | .picture, .grid => T.ki_Picture_Grid | .row, .words => T.ki_Row_Words | .row, .picture => T.ki_Row_Picture | .row, .row => T.ki_Row_Row | .row, .pile => T.ki_Row_Pile | .row, .grid => T.ki_Row_Grid | .pile, .words => T.ki_Pile_Words | .pile, .picture => T.ki_Pile_Picture | .pile, .row => T.ki_Pile_Row | .pile, .pile => T.ki_Pile_Pile | .pile, .grid => T.ki_Pile_Grid | .grid, .words => T.ki_Grid_Words | .grid, .picture => T.ki_Grid_Picture | .grid, .row => T.ki_Grid_Row | .grid, .pile => T.ki_Grid_Pile | .grid, .grid => T.ki_Grid_Grid
end
end My
/-! ### styles made, kept and asked again -/
namespace My
open PySem L2
theorem mix_len (fs ds : List V) (told : List Nat) : (mixL fs ds told).length = 10 := by
  unfold mixL
  rw [List.length_map, List.length_range]
theorem mix_get {fs ds : List V} {told : List Nat} {i : Nat} {v : V} (h : (mixL fs ds told)[i]? = some v) : i < 10 ∧ v = if told.contains i then fs.getD i .non else ds.getD i .non := by
  have hi : i < 10 := by
    have := (List.getElem?_eq_some_iff.mp h).1
    rwa [mix_len] at this
  refine ⟨hi, ?_⟩
  rw [mix_at hi] at h
  exact (Option.some.inj h).symm
theorem okf_alk {K : PySem.W.Frag} {H : Hp} : ∀ {i : Nat} {v : V}, i ≠ 8 → OkF K H i v → AlkAt K H v v
  | 0, _, _, h => SzAt.alk h
  | 1, _, _, h => SzAt.alk h
  | 2, _, _, h => BdAt.alk h
  | 3, _, _, h => BdAt.alk h
  | 4, _, _, h => BdAt.alk h
  | 5, _, _, h => BdAt.alk h
  | 6, _, _, h => CtAt.alk h
  | 7, _, _, h => CtAt.alk h
  | 8, _, n, _ => absurd rfl n
  | _ + 9, _, _, h => StAt.alk h
theorem dflt_alk {K : PySem.W.Frag} {H : Hp} {U u0 : Addr} (t : SqT K H U [.int 0, .int 0, .int 0, .int 0]) (hu : H u0 = some (.tup [.int 0, .int 0, .int 0, .int 0])) : ∀ {i : Nat}, i < 10 → AlkAt K H ((dfltL U).getD i .non) ((dfltL u0).getD i .non)
  | 0, _ => .inl ⟨rfl, .inl rfl⟩
  | 1, _ => .inl ⟨rfl, .inl rfl⟩
  | 2, _ => .inl ⟨rfl, .inl rfl⟩
  | 3, _ => .inl ⟨rfl, .inl rfl⟩
  | 4, _ => .inl ⟨rfl, .inl rfl⟩
  | 5, _ => .inl ⟨rfl, .inl rfl⟩
  | 6, _ => .inl ⟨rfl, .inr (.inl ⟨_, rfl⟩)⟩
  | 7, _ => .inl ⟨rfl, .inr (.inl ⟨_, rfl⟩)⟩
  | 8, _ => .inr ⟨U, u0, _, rfl, rfl, t, hu, fl4, Nat.le_of_ble_eq_true rfl⟩
  | 9, _ => .inl ⟨rfl, .inl rfl⟩
  | n + 10, h => absurd h (by omega)
theorem alk_mix {K : PySem.W.Frag} {H : Hp} {fs : List V} {told : List Nat} {U u0 ra : Addr} {n0 n1 n2 n3 : Nat} (hf : OkL K H fs) (h8 : fs[8]? = some (.ref ra)) (hra : H ra = some (.tup [.int (n0 : Int), .int (n1 : Int), .int (n2 : Int), .int (n3 : Int)]))
    (hu : H u0 = some (.tup [.int 0, .int 0, .int 0, .int 0])) (t : SqT K H U [.int 0, .int 0, .int 0, .int 0]) (i : Nat) (u v : V) (e1 : (mixL fs (dfltL U) told)[i]? = some u) (e2 : (mixL fs (dfltL u0) told)[i]? = some v) : AlkAt K H u v := by
  obtain ⟨hi, rfl⟩ := mix_get e1
  obtain ⟨_, rfl⟩ := mix_get e2
  by_cases hc : told.contains i = true
  · rw [if_pos hc, if_pos hc]
    by_cases h : i = 8
    · subst h
      rw [List.getD_eq_getElem?_getD, h8]
      exact .inr ⟨ra, ra, _, rfl, rfl, sqT hra, hra, fl4, Nat.le_of_ble_eq_true rfl⟩
    · exact okf_alk h (hf.2 i _ (by rw [List.getD_eq_getElem?_getD, List.getElem?_eq_getElem (by rw [hf.1]; exact hi)]; rfl))
  · rw [if_neg hc, if_neg hc]
    exact dflt_alk t hu hi
theorem inV_nat (told : List Nat) (i : Nat) : inV (.int (i : Int)) ((told.map Int.ofNat).map V.int) = told.contains i := by
  induction told with
  | nil => rfl
  | cons a l ih =>
    have e : inV (.int (i : Int)) (((a :: l).map Int.ofNat).map V.int) = ((Int.ofNat a == (i : Int)) || inV (.int (i : Int)) ((l.map Int.ofNat).map V.int)) := rfl
    rw [e, ih, List.contains_cons]
    congr 1
    rw [Bool.eq_iff_iff, beq_iff_eq, beq_iff_eq]
    exact ⟨fun h => (Int.ofNat.inj h).symm, fun h => by rw [h]; rfl⟩
/-- a style kept with what is due -/
def EntAt (K : PySem.W.Frag) (C pS : Addr) (H : Hp) (t : V) : Prop := ∃ (T x dx d : Addr) (gs ds : List V), t = .ref T ∧ H T = some (.tup [.ref x, .ref d]) ∧ H x = some (.ins C dx (styL gs)) ∧ gs.length = 10 ∧ H d = some (.lst ds) ∧ ds.length = 10 ∧ d ≠ pS ∧ ∀ (i : Nat) (u v : V), gs[i]? = some u → ds[i]? = some v → AlkAt K H u v
theorem EntAt.same {K : PySem.W.Frag} {C pS : Addr} {H H' : Hp} {t : V} (h : EntAt K C pS H t) (s : Same H H') : EntAt K C pS H' t := by
  obtain ⟨T, x, dx, d, gs, ds, e, h1, h2, h3, h4, h5, h6, h7⟩ := h
  exact ⟨T, x, dx, d, gs, ds, e, s _ _ h1, s _ _ h2, h3, s _ _ h4, h5, h6, fun i u v e1 e2 => (h7 i u v e1 e2).same s⟩
theorem EntAt.but {K : PySem.W.Frag} {C pS p : Addr} {H H' : Hp} {t : V} {zs : List V} (h : EntAt K C pS H t) (b : But p H H') (hp : H p = some (.lst zs)) (hd : p = pS ∨ zs.length ≠ 10) : EntAt K C pS H' t := by
  obtain ⟨T, x, dx, d, gs, ds, e, h1, h2, h3, h4, h5, h6, h7⟩ := h
  refine ⟨T, x, dx, d, gs, ds, e, tup_but b hp h1, b.app (by rintro rfl; rw [hp] at h2; cases h2) h2, h3, b.app ?_ h4, h5, h6, fun i u v e1 e2 => (h7 i u v e1 e2).but b hp⟩
  rintro rfl
  rcases hd with hd | hd
  · exact h6 hd
  · rw [hp] at h4; cases h4; exact hd h5
theorem EntAt.dr {K : PySem.W.Frag} {C pS p : Addr} {H H' : Hp} {t : V} (h : EntAt K C pS H t) (hs : Src H p) (d : Dr p H H') : EntAt K C pS H' t := by
  obtain ⟨z, hz⟩ := hs
  exact h.but d.b hz (.inr (show (3 : Nat) ≠ 10 by decide))
/-- the script, wherever it stands -/
def ScrAt (K : PySem.W.Frag) (a pS : Addr) (xs : List V) (H : Hp) : Prop := (∃ o, H a = some o ∧ a ≠ pS ∧ ∀ H2 : Hp, H2 a = some o → SqL K H2 a xs) ∨ ∀ H2 : Hp, SqL K H2 a xs
theorem ScrAt.seq {K : PySem.W.Frag} {a pS : Addr} {xs : List V} {H : Hp} (h : ScrAt K a pS xs H) : SqL K H a xs := h.elim (fun ⟨o, h1, _, h3⟩ => h3 H h1) (fun h => h H)
theorem ScrAt.of {K : PySem.W.Frag} {a pS : Addr} {xs : List V} {H : Hp} (h : SqL K H a xs) (f : H pS = none) : ScrAt K a pS xs H := by
  rcases h with (h | ⟨o, h⟩) | h
  · exact .inl ⟨_, h, ne_of_none h f, fun H2 e => .inl (.inl e)⟩
  · exact .inl ⟨_, h, ne_of_none h f, fun H2 e => .inl (.inr ⟨o, e⟩)⟩
  · exact .inr fun H2 => .inr h
theorem ScrAt.same {K : PySem.W.Frag} {a pS : Addr} {xs : List V} {H H' : Hp} (h : ScrAt K a pS xs H) (s : Same H H') : ScrAt K a pS xs H' := h.imp (fun ⟨o, h1, h2, h3⟩ => ⟨o, s _ _ h1, h2, h3⟩) id
theorem ScrAt.but {K : PySem.W.Frag} {a pS : Addr} {xs : List V} {H H' : Hp} (h : ScrAt K a pS xs H) (b : But pS H H') : ScrAt K a pS xs H' := h.imp (fun ⟨o, h1, h2, h3⟩ => ⟨o, b.app h2 h1, h2, h3⟩) id
/-- .. behind a new source -/
theorem ScrAt.new {K : PySem.W.Frag} {a pS s : Addr} {xs : List V} {H H1 H' : Hp} (h : ScrAt K a pS xs H) (sm : Same H H1) (f : H s = none) (d : Dr s H1 H') : ScrAt K a pS xs H' := h.imp (fun ⟨o, h1, h2, h3⟩ => ⟨o, d.app (ne_of_none h1 f) (sm _ _ h1), h2, h3⟩) id
end My

namespace My
open PySem L2
theorem atK {xs : List V} {k : Nat} {v : V} (h : xs[k]? = some v) : atI xs (k : Int) = some v := by
  unfold atI
  rw [ixN_nat (List.getElem?_eq_some_iff.mp h).1]
  exact h
/-- a draw off the first ones of a list -/
theorem pickP {P : V → Prop} {xs : List V} (ys : List V) {n : Int} (h : ∀ x ∈ xs, P x) (h0 : 0 ≤ n) (h1 : n < xs.length) : ∃ x, atI (xs ++ ys) n = some x ∧ P x := by
  obtain ⟨k, rfl⟩ := Int.eq_ofNat_of_zero_le h0
  have hk : k < xs.length := by omega
  exact ⟨xs[k], atK (by rw [List.getElem?_append_left hk]; exact List.getElem?_eq_getElem hk), h _ (List.getElem_mem hk)⟩
theorem allC {P : V → Prop} {x : V} {xs : List V} (h : P x) (t : ∀ y ∈ xs, P y) : ∀ y ∈ x :: xs, P y := List.forall_mem_cons.mpr ⟨h, t⟩
theorem allN {P : V → Prop} : ∀ y ∈ ([] : List V), P y := fun _ h => by cases h
theorem pickA {P : V → Prop} {xs : List V} {n : Int} (h : ∀ x ∈ xs, P x) (h0 : 0 ≤ n) (h1 : n < xs.length) : ∃ x, atI xs n = some x ∧ P x := by
  have := pickP [] h h0 h1
  rwa [List.append_nil] at this
end My

/-! ### texts: signs, pieces -/
namespace My
open PySem L2
theorem at_some {α : Type} {xs : List α} {i : Int} (h0 : 0 ≤ i) (h1 : i < xs.length) : ∃ c, atI xs i = some c ∧ c ∈ xs := by
  obtain ⟨k, rfl⟩ := Int.eq_ofNat_of_zero_le h0
  have hk : k < xs.length := by omega
  refine ⟨xs[k], ?_, List.getElem_mem hk⟩
  unfold atI
  rw [ixN_nat hk]
  exact List.getElem?_eq_getElem hk
theorem strOk_iff {x : Str} : PyData.strOk x = true ↔ ∀ c ∈ x.cps.toList, c < 0x110000 := by
  unfold PyData.strOk
  rw [← Array.all_toList, List.all_eq_true]
  exact ⟨fun h c hc => of_decide_eq_true (h c hc), fun h c hc => decide_eq_true (h c hc)⟩
theorem strOk_one {c : Nat} (h : c < 0x110000) : PyData.strOk ⟨#[c]⟩ = true := strOk_iff.mpr fun d hd => by
  rw [List.mem_singleton.mp hd]; exact h
theorem strOk_append {x y : Str} (hx : PyData.strOk x = true) (hy : PyData.strOk y = true) : PyData.strOk (x ++ y) = true := strOk_iff.mpr fun c hc => by
  have : c ∈ (x.cps ++ y.cps).toList := hc
  rw [Array.toList_append] at this
  rcases List.mem_append.mp this with h | h
  · exact strOk_iff.mp hx c h
  · exact strOk_iff.mp hy c h
theorem strOk_cut {x : Str} {lo hi : Option Int} (hx : PyData.strOk x = true) : PyData.strOk (cutS x lo hi) = true := strOk_iff.mpr fun c hc => by
  have : c ∈ (x.cps.toList.drop (HT.sIx x.length 0 lo)).take (HT.sIx x.length x.length hi - HT.sIx x.length 0 lo) := hc
  exact strOk_iff.mp hx c (List.mem_of_mem_drop (List.mem_of_mem_take this))
theorem str_sign {x : Str} {i : Int} (h0 : 0 ≤ i) (h1 : i < x.length) (ok : PyData.strOk x = true) : ∃ c, atI x.cps.toList i = some c ∧ PyData.strOk ⟨#[c]⟩ = true := by
  obtain ⟨c, h, m⟩ := at_some (xs := x.cps.toList) h0 (by rw [Array.length_toList]; exact h1)
  exact ⟨c, h, strOk_one (strOk_iff.mp ok c m)⟩
end My

/-! ### tracks and asks that may be none -/
namespace My
open PySem L2
def flatD : PyData → Bool
  | .none => true
  | .bool _ => true
  | .int _ => true
  | .str _ => true
  | _ => false
def flV : PyData → V
  | .none => .non
  | .bool b => .bl b
  | .int i => .int i
  | .str s => .str s
  | _ => .non
def tyD : PyData → String
  | .none => "NoneType"
  | .bool _ => "bool"
  | .int _ => "int"
  | .str _ => "str"
  | .list _ => "list"
  | .tuple _ => "tuple"
  | .dict _ => "dict"
inductive It (H : Hp) : V → PyData → Prop
  | fl (d : PyData) (f : flatD d = true) : It H (flV d) d
  | tup {r : Addr} {ds : List PyData} (g : H r = some (.tup (ds.map flV))) (f : ds.all flatD = true) : It H (.ref r) (.tuple ds)
  | lst {r : Addr} {ds : List PyData} (g : H r = some (.lst (ds.map flV))) (f : ds.all flatD = true) : It H (.ref r) (.list ds)
section
variable {H H' : Hp} {v : V} {d : PyData}
theorem fl_t7 : ∀ {d : PyData}, flatD d = true → Ty7 H (flV d) (tyD d)
  | .none, _ => .non
  | .bool b, _ => .bl b
  | .int i, _ => .int i
  | .str s, _ => .str s
  | .list _, h => by cases h
  | .tuple _, h => by cases h
  | .dict _, h => by cases h
theorem It.t7 (h : It H v d) : Ty7 H v (tyD d) := by
  cases h with
  | fl _ f => exact fl_t7 f
  | tup g _ => exact .tup g
  | lst g _ => exact .lst g
theorem It.mono (h : It H v d) (s : Same H H') : It H' v d := by
  cases h with
  | fl _ f => exact .fl _ f
  | tup g f => exact .tup (s _ _ g) f
  | lst g f => exact .lst (s _ _ g) f
theorem It.but {a : Addr} (h : It H v d) (b : But a H H') (n : v ≠ .ref a) : It H' v d := by
  cases h with
  | fl _ f => exact .fl _ f
  | tup g f => exact .tup (b.app (fun e => n (by rw [e])) g) f
  | lst g f => exact .lst (b.app (fun e => n (by rw [e])) g) f
theorem fl_dp {K : PySem.W.Frag} : ∀ {d : PyData}, flatD d = true → Dp K H (flV d) d
  | .none, _ => .non
  | .bool b, _ => .bl b
  | .int i, _ => .int i
  | .str s, _ => .str s
  | .list _, h => by cases h
  | .tuple _, h => by cases h
  | .dict _, h => by cases h
theorem fl_dps {K : PySem.W.Frag} : ∀ {ds : List PyData}, ds.all flatD = true → DpAll K H (ds.map flV) ds
  | [], _ => .nil
  | d :: ds, h => by
    rw [List.all_cons, Bool.and_eq_true] at h
    exact .cons (fl_dp h.1) (fl_dps h.2)
theorem It.dp {K : PySem.W.Frag} (h : It H v d) : Dp K H v d := by
  cases h with
  | fl _ f => exact fl_dp f
  | tup g f => exact .tup (sqT g) (fl_dps f)
  | lst g f => exact .lst (sqL g) (fl_dps f)
/-- flat, or an object -/
theorem It.kind (h : It H v d) : flatB v = true ∨ ∃ r, v = .ref r := by
  cases h with
  | fl d f => cases d <;> first | exact .inl rfl | cases f
  | tup g f => exact .inr ⟨_, rfl⟩
  | lst g f => exact .inr ⟨_, rfl⟩
end
/-! #### what is a track, an ask -/
def isP : V → Bool
  | .int k => decide (1 ≤ k)
  | _ => false
def trackB : PyData → Bool
  | .tuple [a, b] => decide (flV a = .str "share") && isP (flV b)
  | .tuple _ => false
  | .list _ => false
  | .dict _ => false
  | d => isN (flV d) || decide (flV d = .str "fit")
def strD : PyData → Bool
  | .str _ => true
  | _ => false
/-- its first item can be compared; it can be laid -/
def fineD (d : PyData) : Bool := d.canLay0 && decide (d.depth ≤ 1) && (match d with
  | .tuple [a, _] => strD a
  | _ => true)
def stretchB (n : Int) : V → V → Bool
  | .int f, .int m => decide (0 ≤ f) && decide (1 ≤ m) && decide (f + m ≤ n)
  | _, _ => false
def askB (n : Int) : PyData → Bool
  | .tuple [a, b, c] => stretchB n (flV a) (flV b) && isN (flV c)
  | _ => false
def ItsAt (H : Hp) (vs : List V) (ds : List PyData) : Prop := vs.length = ds.length ∧ ∀ (i : Nat) (v : V) (d : PyData), vs[i]? = some v → ds[i]? = some d → It H v d
section
variable {H H' : Hp} {vs : List V} {ds : List PyData} {v : V} {d : PyData}
theorem ItsAt.mono (h : ItsAt H vs ds) (s : Same H H') : ItsAt H' vs ds := ⟨h.1, fun i v d a b => (h.2 i v d a b).mono s⟩
theorem ItsAt.but {a : Addr} (h : ItsAt H vs ds) (b : But a H H') (n : ∀ v ∈ vs, v ≠ .ref a) : ItsAt H' vs ds := ⟨h.1, fun i v d x y => (h.2 i v d x y).but b (n v (List.mem_of_getElem? x))⟩
theorem ItsAt.at' (h : ItsAt H vs ds) {i : Nat} (e : vs[i]? = some v) : ∃ d, ds[i]? = some d ∧ It H v d := by
  have hi := (List.getElem?_eq_some_iff.mp e).1
  have l := h.1
  exact ⟨ds[i], List.getElem?_eq_getElem (by omega), h.2 i v _ e (List.getElem?_eq_getElem (by omega))⟩
theorem ItsAt.dp {K : PySem.W.Frag} : ∀ {vs : List V} {ds : List PyData}, ItsAt H vs ds → DpAll K H vs ds
  | [], [], _ => .nil
  | [], _ :: _, h => by cases h.1
  | _ :: _, [], h => by cases h.1
  | v :: vs, d :: ds, h => .cons (h.2 0 v d rfl rfl).dp (ItsAt.dp ⟨by simpa using h.1, fun i w e a b => h.2 (i + 1) w e a b⟩)
theorem ItsAt.kind (h : ItsAt H vs ds) : ∀ v ∈ vs, flatB v = true ∨ ∃ r, v = .ref r := fun v hv => by
  obtain ⟨i, hi⟩ := List.getElem?_of_mem hv
  obtain ⟨d, _, hd⟩ := h.at' hi
  exact hd.kind
theorem ItsAt.set (h : ItsAt H vs ds) (i : Nat) (hv : It H v d) : ItsAt H (vs.set i v) (ds.set i d) := by
  refine ⟨by rw [List.length_set, List.length_set]; exact h.1, fun j w e a b => ?_⟩
  by_cases hj : i = j
  · subst hj
    have l := (List.getElem?_eq_some_iff.mp a).1
    have l2 := (List.getElem?_eq_some_iff.mp b).1
    rw [List.length_set] at l l2
    rw [List.getElem?_set_self l] at a
    rw [List.getElem?_set_self l2] at b
    cases a; cases b
    exact hv
  · rw [List.getElem?_set_ne hj] at a b
    exact h.2 j w e a b
theorem ItsAt.append {us : List V} {es : List PyData} (h : ItsAt H vs ds) (g : ItsAt H us es) : ItsAt H (vs ++ us) (ds ++ es) := by
  refine ⟨by rw [List.length_append, List.length_append, h.1, g.1], fun j w e a b => ?_⟩
  by_cases hj : j < vs.length
  · rw [List.getElem?_append_left hj] at a
    rw [List.getElem?_append_left (by have := h.1; omega)] at b
    exact h.2 j w e a b
  · rw [List.getElem?_append_right (by omega)] at a
    rw [List.getElem?_append_right (by have := h.1; omega), ← h.1] at b
    exact g.2 _ w e a b
theorem ItsAt.take (h : ItsAt H vs ds) (n : Nat) : ItsAt H (vs.take n) (ds.take n) := by
  refine ⟨by rw [List.length_take, List.length_take, h.1], fun j w e a b => ?_⟩
  rw [List.getElem?_take] at a b
  split at a
  · next q => rw [if_pos q] at b; exact h.2 j w e a b
  · cases a
theorem ItsAt.drop (h : ItsAt H vs ds) (n : Nat) : ItsAt H (vs.drop n) (ds.drop n) := by
  refine ⟨by rw [List.length_drop, List.length_drop, h.1], fun j w e a b => ?_⟩
  rw [List.getElem?_drop] at a b
  exact h.2 _ w e a b
theorem ItsAt.one (hv : It H v d) : ItsAt H [v] [d] := ⟨rfl, fun i w e a b => by
  cases i with
  | zero => cases a; cases b; exact hv
  | succ i => cases a⟩
end
/-! #### good ones -/
section
variable {H H' : Hp} {v : V}
theorem tk_it {t : Tk} (h : TkAt H v t) : It H v (tkD t) := by
  cases t with
  | cells n => have e : v = .int n := h; subst e; exact .fl (.int n) rfl
  | fit => have e : v = .str "fit" := h; subst e; exact .fl (.str "fit") rfl
  | share k => obtain ⟨r, rfl, g⟩ := h; exact .tup (ds := [.str "share", .int k]) g rfl
theorem tk_fine (t : Tk) : fineD (tkD t) = true := by
  have := tkD_can t
  unfold fineD
  rw [this.1, decide_eq_true this.2]
  cases t <;> rfl
theorem tk_ok {t : Tk} (h : t.ok) : trackB (tkD t) = true := by
  cases t with
  | cells n => show (decide (0 ≤ n) || _) = true; rw [decide_eq_true (show 0 ≤ n from h)]; rfl
  | fit => rfl
  | share k =>
    show (decide (V.str "share" = V.str "share") && decide (1 ≤ k)) = true
    rw [decide_eq_true (show 1 ≤ k from h), decide_eq_true rfl]; rfl
theorem ask_it {q : Ask3} (h : AskAt H v q) : It H v (askD q) := by
  obtain ⟨r, rfl, g⟩ := h
  exact .tup (ds := [.int (q.1 : Int), .int (q.2.1 : Int), .int q.2.2]) g rfl
theorem ask_ok {n : Nat} {q : Ask3} (h : AskOk n q) : askB (n : Int) (askD q) = true := by
  obtain ⟨o1, o2, o3⟩ := h
  show (decide ((0 : Int) ≤ (q.1 : Int)) && decide ((1 : Int) ≤ (q.2.1 : Int)) && decide ((q.1 : Int) + (q.2.1 : Int) ≤ (n : Int)) && decide (0 ≤ q.2.2)) = true
  rw [decide_eq_true (by omega), decide_eq_true (by omega), decide_eq_true (by omega), decide_eq_true o3]; rfl
theorem tks_its {vs : List V} {ts : List Tk} (h : TksAt H vs ts) : ItsAt H vs (ts.map tkD) := by
  refine ⟨by rw [List.length_map]; exact h.1, fun i v d a b => ?_⟩
  obtain ⟨t, ht, hat⟩ := h.at' a
  rw [List.getElem?_map, ht] at b
  cases b
  exact tk_it hat
theorem asks_its {vs : List V} {qs : List Ask3} (h : AsksAt H vs qs) : ItsAt H vs (qs.map askD) := by
  refine ⟨by rw [List.length_map]; exact h.1, fun i v d a b => ?_⟩
  obtain ⟨t, ht, hat⟩ := h.at' a
  rw [List.getElem?_map, ht] at b
  cases b
  exact ask_it hat
end
/-! #### lists of them -/
inductive TrsAt (H : Hp) : V → Bool → Prop
  | no {t : V} {ty : String} (h : Ty7 H t ty) (n : ty ≠ "list") : TrsAt H t false
  | lst {a : Addr} {xs : List V} {ds : List PyData} {b : Bool} (g : H a = some (.lst xs)) (its : ItsAt H xs ds) (f : ∀ d ∈ ds, fineD d = true) (n : ds.length ≤ 1000) (e : b = (!ds.isEmpty && ds.all trackB)) : TrsAt H (.ref a) b
inductive AsksB (H : Hp) (n : Int) : V → Bool → Prop
  | no {t : V} {ty : String} (h : Ty7 H t ty) (nl : ty ≠ "list") : AsksB H n t false
  | lst {a : Addr} {xs : List V} {ds : List PyData} {b : Bool} (g : H a = some (.lst xs)) (its : ItsAt H xs ds) (l : ds.length ≤ 1000) (e : b = ds.all (askB n)) : AsksB H n (.ref a) b
section
variable {H H' : Hp} {v : V} {b : Bool}
theorem TrsAt.mono (h : TrsAt H v b) (s : Same H H') : TrsAt H' v b := by
  cases h with
  | no h n => exact .no (h.mono s) n
  | lst g its f n e => exact .lst (s _ _ g) (its.mono s) f n e
theorem AsksB.mono {n : Int} (h : AsksB H n v b) (s : Same H H') : AsksB H' n v b := by
  cases h with
  | no h n => exact .no (h.mono s) n
  | lst g its l e => exact .lst (s _ _ g) (its.mono s) l e
theorem trs_good {a : Addr} {xs : List V} {ts : List Tk} (g : H a = some (.lst xs)) (h : TksAt H xs ts) (ok : ∀ t ∈ ts, t.ok) (ne : ts ≠ []) (n : ts.length ≤ 1000) : TrsAt H (.ref a) true := by
  refine .lst g (tks_its h) (fun d hd => ?_) (by rw [List.length_map]; exact n) ?_
  · obtain ⟨t, _, rfl⟩ := List.mem_map.mp hd
    exact tk_fine t
  · have e1 : (ts.map tkD).all trackB = true := List.all_eq_true.mpr fun d hd => by
      obtain ⟨t, ht, rfl⟩ := List.mem_map.mp hd
      exact tk_ok (ok t ht)
    rw [e1]
    cases ts with
    | nil => exact absurd rfl ne
    | cons t ts => rfl
theorem asks_good {a : Addr} {n : Nat} {xs : List V} {qs : List Ask3} (g : H a = some (.lst xs)) (h : AsksAt H xs qs) (ok : ∀ q ∈ qs, AskOk n q) (l : qs.length ≤ 1000) : AsksB H (n : Int) (.ref a) true := by
  refine .lst g (asks_its h) (by rw [List.length_map]; exact l) ?_
  exact (List.all_eq_true.mpr fun d hd => by
      obtain ⟨q, hq, rfl⟩ := List.mem_map.mp hd
      exact ask_ok (ok q hq)).symm
end
/-- good tracks -/
structure Gt (H : Hp) (t : V) (ts : List Tk) : Prop where
  ex : ∃ a xs, t = .ref a ∧ H a = some (.lst xs) ∧ TksAt H xs ts
  ok : ∀ t ∈ ts, t.ok
  ne : ts ≠ []
  n : ts.length ≤ 1000
structure Ga (H : Hp) (n : Nat) (t : V) (qs : List Ask3) : Prop where
  ex : ∃ a xs, t = .ref a ∧ H a = some (.lst xs) ∧ AsksAt H xs qs
  ok : ∀ q ∈ qs, AskOk n q
  n : qs.length ≤ 1000
/-- how a call ends: 0 told, 1 no track, 2 no ask, 3 no number -/
inductive Way (H : Hp) (t a g : V) : Nat → Prop
  | told {ts : List Tk} {qs : List Ask3} {k : Int} (h : Gt H t ts) (ha : Ga H ts.length a qs) (e : g = .int k) (k0 : 0 ≤ k) : Way H t a g 0
  | track (h : TrsAt H t false) : Way H t a g 1
  | ask {ts : List Tk} (h : Gt H t ts) (ha : AsksB H (ts.length : Int) a false) : Way H t a g 2
  | number {ts : List Tk} {qs : List Ask3} {ty : String} (h : Gt H t ts) (ha : Ga H ts.length a qs) (e : Ty7 H g ty) (n : isN g = false) : Way H t a g 3
section
variable {H H' : Hp} {t a g : V} {w : Nat}
theorem Gt.mono {ts : List Tk} (h : Gt H t ts) (s : Same H H') : Gt H' t ts := ⟨let ⟨a, xs, e, g, k⟩ := h.ex; ⟨a, xs, e, s _ _ g, k.mono s⟩, h.ok, h.ne, h.n⟩
theorem Ga.mono {n : Nat} {qs : List Ask3} (h : Ga H n t qs) (s : Same H H') : Ga H' n t qs := ⟨let ⟨a, xs, e, g, k⟩ := h.ex; ⟨a, xs, e, s _ _ g, k.mono s⟩, h.ok, h.n⟩
theorem Gt.trs {ts : List Tk} (h : Gt H t ts) : TrsAt H t true := by
  obtain ⟨a, xs, rfl, g, k⟩ := h.ex
  exact trs_good g k h.ok h.ne h.n
theorem Ga.asks {n : Nat} {qs : List Ask3} (h : Ga H n t qs) : AsksB H (n : Int) t true := by
  obtain ⟨a, xs, rfl, g, k⟩ := h.ex
  exact asks_good g k h.ok h.n
theorem Way.mono (h : Way H t a g w) (s : Same H H') : Way H' t a g w := by
  cases h with
  | told h ha e k0 => exact .told (h.mono s) (ha.mono s) e k0
  | track h => exact .track (h.mono s)
  | ask h ha => exact .ask (h.mono s) (ha.mono s)
  | number h ha e n => exact .number (h.mono s) (ha.mono s) (e.mono s) n
end
end My
namespace My
open PySem L2
def trackAt (ds : List PyData) (i : Nat) : Bool := match ds[i]? with
  | some d => trackB d
  | none => false
theorem trackAt_of {ds : List PyData} {i : Nat} {d : PyData} (h : ds[i]? = some d) : trackAt ds i = trackB d := by unfold trackAt; rw [h]
theorem at_all {f : PyData → Bool} {g : Nat → Bool} {ds : List PyData} (h : ∀ i d, ds[i]? = some d → g i = f d) : (List.range ds.length).map g = ds.map f := by
  apply List.ext_getElem?
  intro i
  rw [List.getElem?_map, List.getElem?_map]
  by_cases hi : i < ds.length
  · rw [List.getElem?_range hi, List.getElem?_eq_getElem hi]
    show some (g i) = some (f ds[i])
    rw [h i _ (List.getElem?_eq_getElem hi)]
  · rw [List.getElem?_eq_none (by rw [List.length_range]; omega), List.getElem?_eq_none (by omega)]; rfl
theorem trackAt_all {ds : List PyData} : (List.range ds.length).map (fun i => trackAt ds i) = ds.map trackB := at_all fun i d h => trackAt_of h
def askAt (n : Int) (ds : List PyData) (i : Nat) : Bool := match ds[i]? with
  | some d => askB n d
  | none => false
theorem askAt_of {n : Int} {ds : List PyData} {i : Nat} {d : PyData} (h : ds[i]? = some d) : askAt n ds i = askB n d := by unfold askAt; rw [h]
theorem askAt_all {n : Int} {ds : List PyData} : (List.range ds.length).map (fun i => askAt n ds i) = ds.map (askB n) := at_all fun i d h => askAt_of h
theorem fine_shaped {ds : List PyData} (h : ∀ d ∈ ds, fineD d = true) : SeqAt.shaped (.list ds) = true := by
  have f1 : ∀ d : {d // fineD d = true}, d.1.canLay0 = true := fun d => by
    have := d.2; unfold fineD at this; rw [Bool.and_eq_true, Bool.and_eq_true] at this; exact this.1.1
  have f2 : ∀ d : {d // fineD d = true}, d.1.depth ≤ 1 := fun d => by
    have := d.2; unfold fineD at this; rw [Bool.and_eq_true, Bool.and_eq_true] at this; exact of_decide_eq_true this.1.2
  have := shaped_map (m := 1) (g := fun d : {d // fineD d = true} => d.1) (by decide) f1 f2 (ds.attachWith _ h)
  rwa [List.attachWith_map_subtype_val] at this
end My
namespace My
open PySem L2
theorem pick_all {P : V → Prop} {xs : List V} {n : Int} (h0 : 0 ≤ n) (h1 : n < xs.length) (h : ∀ x ∈ xs, P x) : ∃ x, atI xs n = some x ∧ P x := by
  obtain ⟨k, rfl⟩ := Int.eq_ofNat_of_zero_le h0
  have hk : k < xs.length := by omega
  exact ⟨xs[k], atI_nat (List.getElem?_eq_getElem hk), h _ (List.getElem_mem hk)⟩
theorem all_c {P : V → Prop} {x : V} {xs : List V} (h : P x) (t : ∀ y ∈ xs, P y) : ∀ y ∈ x :: xs, P y := List.forall_mem_cons.mpr ⟨h, t⟩
theorem all_n {P : V → Prop} : ∀ y ∈ ([] : List V), P y := fun _ h => by cases h
/-- a bad one that is new, by a test -/
def Bad (f : PyData → Bool) (H0 H : Hp) (v : V) : Prop := ∃ d, It H v d ∧ f d = true ∧ ∀ r, v = .ref r → H0 r = none
section
variable {f : PyData → Bool} {H0 H H' : Hp} {v : V}
theorem bad_fl (d : PyData) (h : flatD d = true) (b : f d = true) : Bad f H0 H (flV d) := ⟨d, .fl d h, b, fun r e => by cases d <;> first | (cases e; done) | cases h⟩
theorem bad_tup {r : Addr} (ds : List PyData) (g : H r = some (.tup (ds.map flV))) (h : ds.all flatD = true) (b : f (.tuple ds) = true) (n : H0 r = none) : Bad f H0 H (.ref r) := ⟨.tuple ds, .tup g h, b, fun r' e => by cases e; exact n⟩
theorem bad_lst {r : Addr} (ds : List PyData) (g : H r = some (.lst (ds.map flV))) (h : ds.all flatD = true) (b : f (.list ds) = true) (n : H0 r = none) : Bad f H0 H (.ref r) := ⟨.list ds, .lst g h, b, fun r' e => by cases e; exact n⟩
theorem Bad.dr {s : Addr} (h : Bad f H0 H v) (hs : Src H0 s) (d : Dr s H H') : Bad f H0 H' v := by
  obtain ⟨x, hi, b, n⟩ := h
  obtain ⟨z, hz⟩ := hs
  exact ⟨x, hi.but d.b (fun e => by rw [n s e] at hz; cases hz), b, n⟩
end
end My
namespace My
open PySem L2
theorem Bad.dr' {f : PyData → Bool} {H0 H H' : Hp} {v : V} {s : Addr} (h : Bad f H0 H v) (hs : Src H0 s) (_ : Src H s) (d : Dr s H H') : Bad f H0 H' v := h.dr hs d
end My
namespace My
open PySem L2
theorem pick_all' {P : V → Prop} {xs : List V} {n : Int} (h : ∀ x ∈ xs, P x) (h0 : 0 ≤ n) (h1 : n < xs.length) : ∃ x, atI xs n = some x ∧ P x := pick_all h0 h1 h
theorem ask_b1 (n : Int) : (!askB n (.tuple [.int 0, .int (n + 1), .int 5])) = true := by
  show (!(decide ((0 : Int) ≤ 0) && decide (1 ≤ n + 1) && decide (0 + (n + 1) ≤ n) && isN (.int 5))) = true
  rw [decide_eq_false (p := 0 + (n + 1) ≤ n) (by omega)]; simp
theorem ask_b2 (n : Int) : (!askB n (.tuple [.int n, .int 1, .int 5])) = true := by
  show (!(decide (0 ≤ n) && decide ((1 : Int) ≤ 1) && decide (n + 1 ≤ n) && isN (.int 5))) = true
  rw [decide_eq_false (p := n + 1 ≤ n) (by omega)]; simp
end My

/-! ### spots of grids: things that may be none -/
namespace My
open PySem L2
/-- a stretch that stands among so many: first, many -/
def strchB (f m : V) (n : Int) : Bool := match f, m with
  | .int a, .int b => decide (0 ≤ a) && (decide (1 ≤ b) && decide (a + b ≤ n))
  | _, _ => false
/-- a thing: a tuple of plain things, or no tuple -/
inductive ThAt (H : Hp) : V → Option (List V) → Prop
  | tup (a : Addr) (xs : List V) (h : H a = some (.tup xs)) (hx : ∀ x ∈ xs, ∃ t, Ty7 H x t) : ThAt H (.ref a) (some xs)
  | other (v : V) (t : String) (h : Ty7 H v t) (n : t ≠ "tuple") : ThAt H v none
theorem ThAt.same {H H' : Hp} {v : V} {o : Option (List V)} (h : ThAt H v o) (s : Same H H') : ThAt H' v o := by
  cases h with
  | tup a xs h hx => exact .tup a xs (s _ _ h) fun x m => let ⟨t, k⟩ := hx x m; ⟨t, k.mono s⟩
  | other v t h n => exact .other v t (h.mono s) n
def spotB (c r : Int) : Option (List V) → Bool
  | some [x, y, w, d] => strchB x w c && strchB y d r
  | _ => false
theorem stretch_int {f m : V} {n : Int} (h : strchB f m n = true) : ∃ a b : Int, f = .int a ∧ m = .int b ∧ 0 ≤ a ∧ 1 ≤ b ∧ a + b ≤ n := by
  unfold strchB at h
  split at h
  · rename_i a b
    simp only [Bool.and_eq_true, decide_eq_true_eq] at h
    exact ⟨a, b, rfl, rfl, h.1, h.2.1, h.2.2⟩
  · cases h
/-- four whole numbers as they stand -/
def four4 (x y w d : Int) : Option (List V) := some [.int x, .int y, .int w, .int d]
theorem spot_int {c r : Int} {o : Option (List V)} (h : spotB c r o = true) : ∃ x y w d : Int, o = four4 x y w d ∧ 0 ≤ x ∧ 1 ≤ w ∧ x + w ≤ c ∧ 0 ≤ y ∧ 1 ≤ d ∧ y + d ≤ r := by
  unfold spotB at h
  split at h
  · rename_i x y w d
    rw [Bool.and_eq_true] at h
    obtain ⟨a, b, rfl, rfl, h1, h2, h3⟩ := stretch_int h.1
    obtain ⟨a', b', rfl, rfl, h4, h5, h6⟩ := stretch_int h.2
    exact ⟨_, _, _, _, rfl, h1, h2, h3, h4, h5, h6⟩
  · cases h
def apartI (x y w d x' y' w' d' : Int) : Bool := (decide (x + w ≤ x') || decide (x' + w' ≤ x)) || (decide (y + d ≤ y') || decide (y' + d' ≤ y))
def apartO : Option (List V) → Option (List V) → Bool
  | some [.int x, .int y, .int w, .int d], some [.int x', .int y', .int w', .int d'] => apartI x y w d x' y' w' d'
  | _, _ => false
/-- each one stands, and apart from those ahead -/
def stB (c r : Int) : List (Option (List V)) → List (Option (List V)) → Bool
  | _, [] => true
  | pre, o :: t => (spotB c r o && pre.all (apartO o)) && stB c r (pre ++ [o]) t
def ThsAt (H : Hp) (vs : List V) (os : List (Option (List V))) : Prop := vs.length = os.length ∧ ∀ (i : Nat) (v : V) (o : Option (List V)), vs[i]? = some v → os[i]? = some o → ThAt H v o
theorem ThsAt.same {H H' : Hp} {vs : List V} {os : List (Option (List V))} (h : ThsAt H vs os) (s : Same H H') : ThsAt H' vs os := ⟨h.1, fun i v o e1 e2 => (h.2 i v o e1 e2).same s⟩
theorem ThsAt.take {H : Hp} {vs : List V} {os : List (Option (List V))} (h : ThsAt H vs os) (p : Nat) : ThsAt H (vs.take p) (os.take p) := ⟨by rw [List.length_take, List.length_take, h.1], fun i v o e1 e2 => by
  rw [List.getElem?_take] at e1 e2
  split at e1
  · rename_i hi
    rw [if_pos hi] at e2
    exact h.2 i v o e1 e2
  · cases e1⟩
theorem ThAt.four {H : Hp} {v : V} {x y w d : Int} (h : ThAt H v (four4 x y w d)) : ∃ a, v = .ref a ∧ H a = some (.tup [.int x, .int y, .int w, .int d]) := by
  unfold four4 at h
  cases h with
  | tup a xs h hx => exact ⟨a, rfl, h⟩
theorem all_getD (pre : List (Option (List V))) (f : Option (List V) → Bool) : ((List.range pre.length).map fun i => f (pre.getD i none)).all id = pre.all f := by
  have e : ((List.range pre.length).map fun i => f (pre.getD i none)) = pre.map f := by
    refine List.ext_getElem? fun i => ?_
    rw [List.getElem?_map, List.getElem?_map]
    by_cases h : i < pre.length
    · rw [List.getElem?_range h, List.getElem?_eq_getElem h]
      show some (f (pre.getD i none)) = some (f pre[i])
      rw [List.getD_eq_getElem?_getD, List.getElem?_eq_getElem h]; rfl
    · rw [List.getElem?_eq_none (l := List.range pre.length) (by rw [List.length_range]; omega), List.getElem?_eq_none (l := pre) (by omega)]; rfl
  rw [e, List.all_map]; rfl
theorem stB_take {c r : Int} : ∀ (os pre : List (Option (List V))), stB c r pre os = true → ∀ o ∈ os, spotB c r o = true
  | [], _, _, _, m => by cases m
  | o :: t, pre, h, q, m => by
    rw [stB, Bool.and_eq_true, Bool.and_eq_true] at h
    rcases List.mem_cons.mp m with rfl | m
    · exact h.1.1
    · exact stB_take t _ h.2 q m
/-- what holds of the first so many -/
theorem stB_step {c r : Int} (os : List (Option (List V))) (pre : List (Option (List V))) : stB c r pre os = true ↔ ∀ p o, os[p]? = some o → (spotB c r o && (pre ++ os.take p).all (apartO o)) = true := by
  induction os generalizing pre with
  | nil => exact ⟨fun _ p o h => by simp at h, fun _ => rfl⟩
  | cons a t ih =>
    rw [stB, Bool.and_eq_true]
    constructor
    · rintro ⟨h1, h2⟩ p o h
      cases p with
      | zero => simp only [List.getElem?_cons_zero, Option.some.injEq] at h; subst h; simpa using h1
      | succ p => have := (ih (pre ++ [a])).mp h2 p o (by simpa using h); simpa [List.append_assoc] using this
    · intro h
      refine ⟨?_, (ih (pre ++ [a])).mpr fun p o hp => ?_⟩
      · have := h 0 a rfl; simpa using this
      · have := h (p + 1) o (by simpa using hp); simpa [List.append_assoc] using this
/-- an instance of a class -/
def InsC (C : Addr) (H : Hp) (v : V) : Prop := ∃ a dx fs, v = .ref a ∧ H a = some (.ins C dx fs)
theorem InsC.same {C : Addr} {H H' : Hp} {v : V} (h : InsC C H v) (s : Same H H') : InsC C H' v := let ⟨a, dx, fs, e, g⟩ := h; ⟨a, dx, fs, e, s _ _ g⟩
theorem upd_gen {R : Hp → Prop} {H : Hp} {x : Addr} {o : HO} (h : ∀ H2, But x H H2 → H2 x = some o → R H2) : R (upd H x o) := h _ But.refl.upd upd_same
/-! #### things as data -/
def toO : PyData → Option (List V)
  | .tuple ds => some (ds.map flV)
  | _ => none
def CelD (d : PyData) : Prop := d.canLay0 = true ∧ d.depth ≤ 1
theorem ty_flat : ∀ {d : PyData}, flatD d = true → tyD d ≠ "tuple"
  | .none, _ => (by decide : ("NoneType" : String) ≠ "tuple")
  | .bool _, _ => (by decide : ("bool" : String) ≠ "tuple")
  | .int _, _ => (by decide : ("int" : String) ≠ "tuple")
  | .str _, _ => (by decide : ("str" : String) ≠ "tuple")
  | .list _, h => by cases h
  | .tuple _, h => by cases h
  | .dict _, h => by cases h
theorem it_th {H : Hp} {v : V} {d : PyData} (h : It H v d) : ThAt H v (toO d) := by
  cases h with
  | fl d f =>
    have e : toO d = none := by cases d <;> first | rfl | cases f
    rw [e]
    exact .other _ (tyD d) (fl_t7 f) (ty_flat f)
  | @tup r ds g f =>
    refine .tup r _ g fun x m => ?_
    obtain ⟨d, hd, rfl⟩ := List.mem_map.mp m
    exact ⟨_, fl_t7 (List.all_eq_true.mp f d hd)⟩
  | @lst r ds g f => exact .other _ "list" (.lst g) (by decide)
theorem its_ths {H : Hp} {vs : List V} {ds : List PyData} (h : ItsAt H vs ds) : ThsAt H vs (ds.map toO) := ⟨by rw [List.length_map, h.1], fun i v o e1 e2 => by
  rw [List.getElem?_map] at e2
  obtain ⟨d, hd, hi⟩ := h.at' e1
  rw [hd] at e2
  cases e2
  exact it_th hi⟩
def cel4 (x y w d : Int) : PyData := .tuple [.int x, .int y, .int w, .int d]
theorem cel4_o (x y w d : Int) : toO (cel4 x y w d) = four4 x y w d := rfl
theorem cel4_c (x y w d : Int) : CelD (cel4 x y w d) := by simp [CelD, cel4, PyData.canLay0, PyData.canLayAll0, PyData.depth, PyData.depthAll]
theorem cels_shaped {ds : List PyData} (h : ∀ d ∈ ds, CelD d) : SeqAt.shaped (.list ds) = true := by
  have := shaped_map (m := 1) (g := fun d : {d // CelD d} => d.1) (by decide) (fun d => d.2.1) (fun d => d.2.2) (ds.attachWith _ h)
  rwa [List.attachWith_map_subtype_val] at this
/-- a dict with tuples as keys, empty -/
def tDNewTA : TE := fun _ H Q => New H (.dT []) Q
theorem pe_dnewTA {X : Cx} {pos : Pos} : PE X (.Dict [] [] pos) tDNewTA := pe_imp pe_dnewT fun _ _ _ h => h.go
/-- four whole numbers in a tuple -/
def IsC4 (d : PyData) : Prop := ∃ x y w h : Int, d = cel4 x y w h ∧ -100 ≤ x ∧ x ≤ 100
/-- a source and a dict may change -/
def But2 (a b : Addr) (H H' : Hp) : Prop := ∀ c o, c ≠ a → c ≠ b → H c = some o → H' c = some o
structure Dg (a g : Addr) (H H' : Hp) : Prop where
  s : Src H' a
  b : But2 a g H H'
theorem But2.trans {a b : Addr} {H H1 H2 : Hp} (p : But2 a b H H1) (q : But2 a b H1 H2) : But2 a b H H2 := fun c o n m h => q c o n m (p c o n m h)
theorem But2.of {a b : Addr} {H H1 : Hp} (p : Same H H1) : But2 a b H H1 := fun c o _ _ h => p c o h
theorem But2.l {a b : Addr} {H H1 : Hp} (p : But a H H1) : But2 a b H H1 := fun c o n _ h => p c o n h
theorem But2.r {a b : Addr} {H H1 : Hp} (p : But b H H1) : But2 a b H H1 := fun c o _ n h => p c o n h
theorem Dg.trans {a b : Addr} {H H1 H2 : Hp} (p : Dg a b H H1) (q : Dg a b H1 H2) : Dg a b H H2 := ⟨q.s, p.b.trans q.b⟩
theorem Dg.refl {a b : Addr} {H : Hp} (h : Src H a) : Dg a b H H := ⟨h, fun _ _ _ _ h => h⟩
theorem Dg.same {a b : Addr} {H H1 H2 : Hp} (p : Dg a b H H1) (q : Same H1 H2) : Dg a b H H2 := ⟨p.s.same q, p.b.trans (.of q)⟩
theorem Dg.dr {a b : Addr} {H H1 H2 : Hp} (p : Dg a b H H1) (q : Dr a H1 H2) : Dg a b H H2 := ⟨q.s, p.b.trans (.l q.b)⟩
theorem Dg.set {a b : Addr} {H H1 H2 : Hp} (p : Dg a b H H1) (q : But b H1 H2) (n : a ≠ b) : Dg a b H H2 := ⟨p.s.but q n, p.b.trans (.r q)⟩
/-- .. a list that was not there, too -/
theorem Dg.mut {a b l : Addr} {H H1 H2 : Hp} (p : Dg a b H H1) (q : But l H1 H2) (n : H l = none) (na : a ≠ l) : Dg a b H H2 := ⟨p.s.but q na, fun c o h1 h2 h => q _ _ (ne_of_none h n) (p.b c o h1 h2 h)⟩
/-- a list of such -/
def Cs4 (H : Hp) (us : List V) (ds : List PyData) : Prop := ItsAt H us ds ∧ ∀ d ∈ ds, IsC4 d
theorem c4_it {H : Hp} {p : Addr} {x y w h : Int} (g : H p = some (.tup [.int x, .int y, .int w, .int h])) : It H (.ref p) (cel4 x y w h) := .tup (ds := [.int x, .int y, .int w, .int h]) g rfl
theorem It.four {H : Hp} {v : V} {x y w h : Int} (i : It H v (cel4 x y w h)) : ∃ p, v = .ref p ∧ H p = some (.tup [.int x, .int y, .int w, .int h]) := by
  unfold cel4 at i
  cases i with
  | fl _ f => cases f
  | tup g f => exact ⟨_, rfl, g⟩
theorem Cs4.nil {H : Hp} : Cs4 H [] [] := ⟨⟨rfl, fun i v d e => by simp at e⟩, fun d h => by cases h⟩
theorem Cs4.same {H H' : Hp} {us : List V} {ds : List PyData} (h : Cs4 H us ds) (s : Same H H') : Cs4 H' us ds := ⟨h.1.mono s, h.2⟩
theorem Cs4.gen {H H' : Hp} {us : List V} {ds : List PyData} (h : Cs4 H us ds) (s : ∀ p xs, H p = some (.tup xs) → H' p = some (.tup xs)) : Cs4 H' us ds := ⟨⟨h.1.1, fun i v d e1 e2 => by
  have hi := h.1.2 i v d e1 e2
  obtain ⟨x, y, w, k, rfl, _⟩ := h.2 d (List.mem_of_getElem? e2)
  obtain ⟨p, rfl, g⟩ := hi.four
  exact c4_it (s _ _ g)⟩, h.2⟩
theorem Cs4.but {H H' : Hp} {us : List V} {ds : List PyData} {a : Addr} {zs : List V} (h : Cs4 H us ds) (b : But a H H') (g : H a = some (.lst zs)) : Cs4 H' us ds := h.gen fun p xs e => b _ _ (by rintro rfl; rw [g] at e; cases e) e
theorem Cs4.dr {H H' : Hp} {us : List V} {ds : List PyData} {a : Addr} (h : Cs4 H us ds) (d : Dr a H H') (g : Src H a) : Cs4 H' us ds := let ⟨_, e⟩ := g; h.but d.b e
theorem Cs4.dg {H H' : Hp} {us : List V} {ds : List PyData} {a g : Addr} {kvs : List (List Key × V)} (h : Cs4 H us ds) (d : Dg a g H H') (s : Src H a) (e : H g = some (.dT kvs)) : Cs4 H' us ds :=
  h.gen fun p xs q => d.b _ _ (by rintro rfl; obtain ⟨_, z⟩ := s; rw [z] at q; cases q) (by rintro rfl; rw [e] at q; cases q) q
theorem Cs4.snoc {H : Hp} {us : List V} {ds : List PyData} {p : Addr} {x y w k : Int} (h : Cs4 H us ds) (g : H p = some (.tup [.int x, .int y, .int w, .int k])) (b : -100 ≤ x ∧ x ≤ 100) : Cs4 H (us ++ [.ref p]) (ds ++ [cel4 x y w k]) :=
  ⟨h.1.append (.one (c4_it g)), fun d m => by
    rcases List.mem_append.mp m with m | m
    · exact h.2 d m
    · rw [List.mem_singleton.mp m]; exact ⟨_, _, _, _, rfl, b⟩⟩
/-- a list of pairs of whole numbers -/
inductive C2s (H : Hp) : List V → List (Int × Int) → Prop
  | nil : C2s H [] []
  | cons {p : Addr} {x y : Int} {us : List V} {cs : List (Int × Int)} (g : H p = some (.tup [.int x, .int y])) (b : -100 ≤ x ∧ x ≤ 100) (t : C2s H us cs) : C2s H (.ref p :: us) ((x, y) :: cs)
theorem C2s.gen {H H' : Hp} (s : ∀ p xs, H p = some (.tup xs) → H' p = some (.tup xs)) : ∀ {us : List V} {cs : List (Int × Int)}, C2s H us cs → C2s H' us cs
  | _, _, .nil => .nil
  | _, _, .cons g b t => .cons (s _ _ g) b (t.gen s)
theorem C2s.same {H H' : Hp} {us : List V} {cs : List (Int × Int)} (h : C2s H us cs) (s : Same H H') : C2s H' us cs := h.gen fun p xs e => s _ _ e
theorem C2s.but {H H' : Hp} {us : List V} {cs : List (Int × Int)} {a : Addr} {zs : List V} (h : C2s H us cs) (b : But a H H') (g : H a = some (.lst zs)) : C2s H' us cs := h.gen fun p xs e => b _ _ (by rintro rfl; rw [g] at e; cases e) e
theorem C2s.snoc {H : Hp} {p : Addr} {x y : Int} (g : H p = some (.tup [.int x, .int y])) (b : -100 ≤ x ∧ x ≤ 100) : ∀ {us : List V} {cs : List (Int × Int)}, C2s H us cs → C2s H (us ++ [.ref p]) (cs ++ [(x, y)])
  | _, _, .nil => .cons g b .nil
  | _, _, .cons h b' t => .cons h b' (t.snoc g b)
theorem C2s.dp {K : PySem.W.Frag} {H : Hp} : ∀ {us : List V} {cs : List (Int × Int)}, C2s H us cs → DpAll K H us (cs.map fun c => .tuple [.int c.1, .int c.2])
  | _, _, .nil => .nil
  | _, _, .cons h _ t => .cons (.tup (sqT h) (.cons (.int _) (.cons (.int _) .nil))) t.dp
theorem C2s.at {H : Hp} : ∀ {us : List V} {cs : List (Int × Int)} {i : Nat} {v : V}, C2s H us cs → us[i]? = some v → ∃ p x y, v = .ref p ∧ H p = some (.tup [.int x, .int y]) ∧ -100 ≤ x ∧ x ≤ 100
  | _, _, i, v, .nil, h => by simp at h
  | _, _, 0, v, .cons g b t, h => by simp only [List.getElem?_cons_zero, Option.some.injEq] at h; subst h; exact ⟨_, _, _, rfl, g, b⟩
  | _, _, i + 1, v, .cons g b t, h => t.at (by simpa using h)
theorem C2s.shaped (cs : List (Int × Int)) : SeqAt.shaped (.list (cs.map fun c => .tuple [.int c.1, .int c.2])) = true := shaped_map (m := 1) (by decide) (fun c => by simp [PyData.canLay0, PyData.canLayAll0]) (fun c => by simp [PyData.depth, PyData.depthAll]) cs
theorem C2s.len {H : Hp} : ∀ {us : List V} {cs : List (Int × Int)}, C2s H us cs → us.length = cs.length
  | _, _, .nil => rfl
  | _, _, .cons _ _ t => congrArg Nat.succ t.len
theorem PyData_cons_nil {d : PyData} {ds : List PyData} : PyData.eqv (.list (d :: ds)) (.list []) = false := by simp [PyData.eqv, PyData.eqvAll]
theorem Dg.free {s g q : Addr} {H H1 : Hp} {o : HO} (d : Dg s g H H1) (e : H1 g = some o) (f : H1 q = none) : H q = none := by
  cases z : H q with
  | none => rfl
  | some u =>
    have n1 : q ≠ s := by rintro rfl; obtain ⟨_, y⟩ := d.s; rw [f] at y; cases y
    have n2 : q ≠ g := by rintro rfl; rw [f] at e; cases e
    rw [d.b _ _ n1 n2 z] at f
    cases f
theorem small1000' {n : Nat} (h : n ≤ 100000) : n < sizeLine := Nat.lt_of_le_of_lt h (by decide)
theorem spot_no {x y w d : V} {c r : Int} (h : (isI x && (isI y && (isI w && isI d))) = false) : spotB c r (some [x, y, w, d]) = false := by
  cases e : spotB c r (some [x, y, w, d]) with
  | false => rfl
  | true =>
    obtain ⟨X, Y, W, D, e2, _⟩ := spot_int e
    unfold four4 at e2
    cases e2
    cases h
theorem its_nil {H : Hp} : ItsAt H [] [] := ⟨rfl, fun i v d e => by simp at e⟩
theorem its_cons {H : Hp} {v : V} {d : PyData} {vs : List V} {ds : List PyData} (h : It H v d) (t : ItsAt H vs ds) : ItsAt H (v :: vs) (d :: ds) := (ItsAt.one h).append t
theorem tupI {H : Hp} {r : Addr} {ds : List PyData} (g : H r = some (.tup (ds.map flV))) (f : ds.all flatD = true) : It H (.ref r) (.tuple ds) := .tup g f
theorem all_cd {d : PyData} {ds : List PyData} (h : CelD d) (t : ∀ e ∈ ds, CelD e) : ∀ e ∈ d :: ds, CelD e := List.forall_mem_cons.mpr ⟨h, t⟩
theorem all_nd : ∀ e ∈ ([] : List PyData), CelD e := fun _ h => by cases h
/-- some things as data -/
def Its1 (H : Hp) (us : List V) : Prop := ∃ ds, ItsAt H us ds ∧ ∀ d ∈ ds, CelD d
theorem Its1.same {H H' : Hp} {us : List V} (h : Its1 H us) (s : Same H H') : Its1 H' us := let ⟨d, a, b⟩ := h; ⟨d, a.mono s, b⟩
theorem Its1.app {H : Hp} {us ws : List V} (h : Its1 H us) (k : Its1 H ws) : Its1 H (us ++ ws) := by
  obtain ⟨d, a, b⟩ := h
  obtain ⟨d', a', b'⟩ := k
  exact ⟨d ++ d', a.append a', fun e m => (List.mem_append.mp m).elim (b e) (b' e)⟩
theorem lstI {H : Hp} {r : Addr} {ds : List PyData} (g : H r = some (.lst (ds.map flV))) (f : ds.all flatD = true) : It H (.ref r) (.list ds) := .lst g f
theorem small_log {x : Int} (h : -100 ≤ x ∧ x ≤ 100) : x.natAbs.log2 < 1920 := Nat.lt_of_le_of_lt (Nat.log2_le_self _) (by omega)
theorem strOk_of (t : String) : PyData.strOk (Str.ofString t) = true := strOk_iff.mpr fun c hc => by
  have e : (Str.ofString t).cps.toList = t.toList.map Char.toNat := by
    show (cpsOfBytes 0 0 t.toByteArray.data.toList).toArray.toList = _
    rw [List.toList_toArray, cpsOfBytes_string]
  rw [e] at hc
  obtain ⟨ch, _, rfl⟩ := List.mem_map.mp hc
  have v : ch.val.isValidChar := ch.valid
  show ch.val.toNat < _
  rcases v with v | v
  · have : ch.val.toNat < 0xd800 := v
    omega
  · exact v.2
theorem its1_all {H : Hp} {us : List V} : Its1 H us ↔ ∀ v ∈ us, ∃ d, It H v d ∧ CelD d := by
  constructor
  · rintro ⟨ds, h, c⟩ v m
    obtain ⟨i, hi⟩ := List.getElem?_of_mem m
    obtain ⟨d, hd, it⟩ := h.at' hi
    exact ⟨d, it, c d (List.mem_of_getElem? hd)⟩
  · intro h
    induction us with
    | nil => exact ⟨[], its_nil, all_nd⟩
    | cons v t ih =>
      obtain ⟨d, it, c⟩ := h v (List.mem_cons_self ..)
      obtain ⟨ds, ht, ct⟩ := ih fun w m => h w (List.mem_cons_of_mem _ m)
      exact ⟨d :: ds, its_cons it ht, all_cd c ct⟩
theorem Its1.dr {H H' : Hp} {us : List V} {s : Addr} (h : Its1 H us) (d : Dr s H H') : Its1 H' us := its1_all.mpr fun v m => by
  obtain ⟨x, it, c⟩ := its1_all.mp h v m
  by_cases e : v = .ref s
  · subst e
    obtain ⟨⟨a, b, c⟩, g⟩ := d.s
    exact ⟨.list [.int a, .int b, .int c], .lst g rfl, by simp [CelD, PyData.canLay0, PyData.canLayAll0, PyData.depth, PyData.depthAll]⟩
  · exact ⟨x, it.but d.b e, c⟩
theorem Its1.sub {H : Hp} {us ws : List V} (h : Its1 H us) (m : ∀ v ∈ ws, v ∈ us) : Its1 H ws := its1_all.mpr fun v mv => its1_all.mp h v (m v mv)
theorem Cs4.its {H : Hp} {us : List V} {ds : List PyData} (h : Cs4 H us ds) : Its1 H us := ⟨ds, h.1, fun d m => by
  obtain ⟨x, y, w, k, rfl, _⟩ := h.2 d m
  exact cel4_c x y w k⟩
/-! #### cells of a grid -/
abbrev Sp4 := Int × Int × Int × Int
def InS (q : Sp4) (a b : Int) : Prop := q.1 ≤ a ∧ a < q.1 + q.2.2.1 ∧ q.2.1 ≤ b ∧ b < q.2.1 + q.2.2.2
def sp4 (q : Sp4) : Option (List V) := four4 q.1 q.2.1 q.2.2.1 q.2.2.2
def KeysI (kvs : List (List Key × V)) (S : Int → Int → Prop) : Prop := ∀ a b : Int, (valV kvs [.inl a, .inl b]).isSome = true ↔ S a b
theorem KeysI.put {kvs : List (List Key × V)} {S : Int → Int → Prop} (h : KeysI kvs S) (a0 b0 : Int) (v : V) : KeysI (putK kvs [.inl a0, .inl b0] v) (fun a b => S a b ∨ (a = a0 ∧ b = b0)) := fun a b => by
  rw [valV_put]
  by_cases e : ([.inl a, .inl b] : List Key) = [.inl a0, .inl b0]
  · rw [if_pos e]
    have : a = a0 ∧ b = b0 := by
      simp only [List.cons.injEq, Sum.inl.injEq, and_true] at e
      exact e
    exact ⟨fun _ => .inr this, fun _ => rfl⟩
  · rw [if_neg e, h a b]
    refine ⟨.inl, fun h => h.elim id fun k => absurd ?_ e⟩
    rw [k.1, k.2]
theorem KeysI.imp {kvs : List (List Key × V)} {S T : Int → Int → Prop} (h : KeysI kvs S) (e : ∀ a b, S a b ↔ T a b) : KeysI kvs T := fun a b => (h a b).trans (e a b)
/-- all of them stand -/
theorem all_sp4 {c r : Int} : ∀ {os : List (Option (List V))}, (∀ o ∈ os, spotB c r o = true) → ∃ qs : List Sp4, os = qs.map sp4 ∧ ∀ q ∈ qs, 0 ≤ q.1 ∧ 1 ≤ q.2.2.1 ∧ q.1 + q.2.2.1 ≤ c ∧ 0 ≤ q.2.1 ∧ 1 ≤ q.2.2.2 ∧ q.2.1 + q.2.2.2 ≤ r
  | [], _ => ⟨[], rfl, fun q h => by cases h⟩
  | o :: t, h => by
    obtain ⟨x, y, w, d, e, h1, h2, h3, h4, h5, h6⟩ := spot_int (h o (List.mem_cons_self ..))
    obtain ⟨qs, eq, hq⟩ := all_sp4 fun o' m => h o' (List.mem_cons_of_mem _ m)
    refine ⟨(x, y, w, d) :: qs, by rw [List.map_cons, ← eq, e]; rfl, fun q m => ?_⟩
    rcases List.mem_cons.mp m with rfl | m
    · exact ⟨h1, h2, h3, h4, h5, h6⟩
    · exact hq q m
theorem apart_sp4 (p q : Sp4) : apartO (sp4 p) (sp4 q) = apartI p.1 p.2.1 p.2.2.1 p.2.2.2 q.1 q.2.1 q.2.2.1 q.2.2.2 := rfl
/-- apart just where no cell is had by both -/
theorem apart_iff {p q : Sp4} (p1 : 1 ≤ p.2.2.1) (p2 : 1 ≤ p.2.2.2) (q1 : 1 ≤ q.2.2.1) (q2 : 1 ≤ q.2.2.2) : apartO (sp4 p) (sp4 q) = true ↔ ∀ a b, InS p a b → ¬ InS q a b := by
  rw [apart_sp4]
  unfold apartI InS
  rw [Bool.or_eq_true, Bool.or_eq_true, Bool.or_eq_true, decide_eq_true_eq, decide_eq_true_eq, decide_eq_true_eq, decide_eq_true_eq]
  constructor
  · intro h a b h1 h2; omega
  · intro h
    by_cases c1 : p.1 + p.2.2.1 ≤ q.1
    · exact .inl (.inl c1)
    by_cases c2 : q.1 + q.2.2.1 ≤ p.1
    · exact .inl (.inr c2)
    by_cases c3 : p.2.1 + p.2.2.2 ≤ q.2.1
    · exact .inr (.inl c3)
    by_cases c4 : q.2.1 + q.2.2.2 ≤ p.2.1
    · exact .inr (.inr c4)
    exact absurd ⟨by omega, by omega, by omega, by omega⟩ (h (max p.1 q.1) (max p.2.1 q.2.1) ⟨by omega, by omega, by omega, by omega⟩)
theorem tks_of {H : Hp} : ∀ {us : List V}, (∀ v ∈ us, ∃ t : Tk, TkAt H v t ∧ t.ok) → ∃ ts : List Tk, TksAt H us ts ∧ ∀ t ∈ ts, t.ok
  | [], _ => ⟨[], ⟨rfl, fun i v t e => by simp at e⟩, fun t h => by cases h⟩
  | v :: us, h => by
    obtain ⟨t, ht, ok⟩ := h v (List.mem_cons_self ..)
    obtain ⟨ts, hts, oks⟩ := tks_of fun w m => h w (List.mem_cons_of_mem _ m)
    refine ⟨t :: ts, ⟨by rw [List.length_cons, List.length_cons, hts.1], fun i w u e1 e2 => ?_⟩, fun u m => ?_⟩
    · cases i with
      | zero => cases e1; cases e2; exact ht
      | succ i => exact hts.2 i w u (by simpa using e1) (by simpa using e2)
    · rcases List.mem_cons.mp m with rfl | m
      · exact ok
      · exact oks u m
theorem InsC.but {C D : Addr} {H H' : Hp} {v : V} {zs : List V} (h : InsC C H v) (b : But D H H') (g : H D = some (.lst zs)) : InsC C H' v := by
  obtain ⟨a, dx, fs, rfl, e⟩ := h
  exact ⟨a, dx, fs, rfl, b _ _ (by rintro rfl; rw [g] at e; cases e) e⟩
theorem InsC.dr {C s : Addr} {H H' : Hp} {v : V} (h : InsC C H v) (hs : Src H s) (d : Dr s H H') : InsC C H' v := let ⟨_, g⟩ := hs; h.but d.b g
theorem letter_at {i : Int} (h0 : 0 ≤ i) (h1 : i < 8) : ∃ c, atI (Str.ofString "abcdefgh").cps.toList i = some c ∧ c ∈ lettersL := by
  have e : (Str.ofString "abcdefgh").cps.toList = [97, 98, 99, 100, 101, 102, 103, 104] := by decide +kernel
  have l : ∀ c ∈ ([97, 98, 99, 100, 101, 102, 103, 104] : List Nat), c ∈ lettersL := by decide +kernel
  rw [e]
  obtain ⟨k, rfl⟩ := Int.eq_ofNat_of_zero_le h0
  have hk : k < ([97, 98, 99, 100, 101, 102, 103, 104] : List Nat).length := by show k < 8; omega
  exact ⟨_, atI_nat (List.getElem?_eq_getElem hk), l _ (List.getElem_mem hk)⟩
theorem canLay_list : ∀ {ds : List PyData}, (∀ d ∈ ds, CelD d) → (PyData.list ds).canLay0 = true := by
  intro ds h
  show PyData.canLayAll0 ds = true
  induction ds with
  | nil => rfl
  | cons d t ih => simp only [PyData.canLayAll0, (h d (List.mem_cons_self ..)).1, ih fun e m => h e (List.mem_cons_of_mem _ m), Bool.and_self]
theorem It.there {H : Hp} {v : V} {d : PyData} (h : It H v d) : ∀ c, v = .ref c → H c ≠ none := fun c e => by
  subst e
  generalize hv : V.ref c = v at h
  cases h with
  | fl d f => cases d <;> first | (cases hv; done) | cases f
  | tup g f => cases hv; rw [g]; exact fun h => by cases h
  | lst g f => cases hv; rw [g]; exact fun h => by cases h
theorem shaped_tup {ds : List PyData} (h : SeqAt.shaped (.list ds) = true) : SeqAt.shaped (.tuple ds) = true := by
  simpa [SeqAt.shaped, PyData.canLay0, PyData.depth] using h
theorem eqv_tup_self {ds : List PyData} (h : (PyData.list ds).canLay0 = true) : PyData.eqv (.tuple ds) (.tuple ds) = true := SeqAt.eqv_refl _ (by simpa [PyData.canLay0] using h)
theorem lcTx {K : PySem.W.Frag} {g : TG} {tt : TT} {te : TE} {vs : List Nat} {σ : L2.St} {H1 : Hp} {D a : Addr} {Qd : Hp → Prop} {xs : List V} (f : Nat → V) (hD : H1 D = none) (hx : SqT K H1 a xs) (hn : xs.length ≤ 100000)
    (hs : ∀ (i : Nat) (x : V) (H : Hp) (Kt : V → Hp → Prop) (Kf : Hp → Prop), xs[i]? = some x → Same H1 H → (∀ H4, Same H H4 → Kt (f i) H4) → LcT g tt te vs σ x H Kt Kf)
    (hd : ∀ H, Same H1 H → H D = some (.lst ((List.range xs.length).map f)) → Qd H) : LcG (Itt K a) g tt te vs σ H1 D Qd :=
  lcTq (ysF f (fun _ => true) (List.range xs.length)) hD hx hn (fun i x H Kt Kf hxi s qq => by
    have hi := (List.getElem?_eq_some_iff.mp hxi).1
    exact hs i x H Kt Kf hxi s (fun H4 s4 => qq.yes _ _ s4 (by unfold ysF; rw [range_get hi]; rfl)))
    (fun H s h => hd H s (by have := ysF_all f (fun _ => true) (List.range xs.length); rw [List.length_range] at this; rw [h, this, List.filter_eq_self.mpr fun _ _ => rfl]))
end My

/-! ### a target with a star at its end: x, *r = a tuple -/
namespace My
open PySem PySem.Spec PyProof.Rows L2
section
variable {prog : Program} {w : World} {A : Around} {E : Value → Shared → Prop} {s : Shared}
theorem walks_off {I : Addr} {fp wr : List Addr} {n : Nat} {P : Nat → Value → Prop} {St : Nat → Heap → Prop} (W : Walks prog w A I fp wr (n + 1) P St) : Walks prog w A I fp wr n (fun i => P (i + 1)) (fun i => St (i + 1)) where
  sub := W.sub
  frame := fun i => W.frame (i + 1)
  item := fun i s Q E hi st hQ => W.item (i + 1) s Q E (Nat.succ_lt_succ hi) st hQ
  done := fun s Q E st hQ => W.done s Q E st hQ
  self := fun i => W.self (i + 1)
theorem unpack_hd_rest {t : Addr} {x : Value} {its : List Value} {Q : List Value → Shared → Prop} (hh : A.handled = none) (hh1 : A.in1.handled = none) (ht : IsTup s.heap t (x :: its).toArray) (hz : its.length ≤ sizeLine)
    (hQ : ∀ (h' : Heap) (tk : Nat), (∀ b o, s.heap.get? b = some o → h'.get? b = some o) → Q [x, .ref h'.objs.size] { s with heap := h'.push { cls := .type "list", data := .seq its.toArray }, toks := tk }) :
    wpAny (model prog w) A (unpackItems (.ref t) 2 (some 1)) Q E s := by
  have hlt : t ≠ s.heap.objs.size := by obtain ⟨o, ho, _⟩ := ht; exact Nat.ne_of_lt (Heap.lt_size ho)
  unfold unpackItems
  refine wpAny_bind ?_
  unfold notIterableAtAll
  refine wpAny_bind (wpAny_specialOf ht.typeIs slot_tuple_iter.lookup ?_)
  refine wpAny_pure ?_
  simp only [Bool.false_eq_true, if_false]
  refine wpAny_bind (wpAny_holding (iter_tuple ht ?_))
  refine wpAny_bind (wpAny_holding (draw_tuple hlt 1 0 _ _ ⟨_, Heap.get?_push_size _ rfl, rfl, rfl⟩ (ht.push _) (by simp) fun h₁ hit₁ hs₁ => ?_))
  have hall : List.take 1 (List.drop 0 (x :: its).toArray.toList) = [x] := rfl
  rw [hall]
  rw [if_neg (by simp)]
  have ht₁ : IsTup h₁ t (x :: its).toArray := (ht.push _).extBut hs₁.extBut hlt
  have W := walks_off (n := its.length) (by have := Walks.tuple (prog := prog) (w := w) (A := A.in1) hh1 s.heap.objs.size t hlt (x :: its).toArray; simpa using this)
  refine wpAny_bind (wpAny_holding (wpAny_collect_iter (.inr (.inr (.inr rfl))) W.toS (fun i s st => st.1.typeIs) ⟨hit₁, ht₁⟩ (fun b hb => ?_) (by simp) (fun s' acc hm hacc => ?_) hz))
  · have hI := hit₁
    obtain ⟨o, ho, _⟩ := hI
    obtain ⟨o2, ho2, _⟩ := ht₁
    rcases List.mem_cons.mp hb with rfl | hb
    · exact Heap.lt_size ho
    · rw [List.mem_singleton.mp hb]; exact Heap.lt_size ho2
  have ea : acc.toList = its := by
    obtain ⟨hl, hi⟩ := hacc
    apply List.ext_getElem?
    intro j
    by_cases hj : j < acc.toList.length
    · rw [List.getElem?_eq_getElem hj]
      have := hi j acc[j] (by rw [Array.getElem?_eq_getElem])
      simpa using this.symm
    · rw [List.getElem?_eq_none (by omega), List.getElem?_eq_none (by rw [Array.length_toList] at hj; omega)]
  rw [ea]
  simp only [Nat.sub_self, Nat.not_lt_zero, if_false, Nat.sub_zero, List.take_length, List.drop_length]
  refine wpAny_bind (m := newList its) (wpAny_newObj_type ?_ (by exact hz))
  refine wpAny_pure ?_
  obtain ⟨hp', g', d', tk', os'⟩ := s'
  have eg : g' = s.gens := hm.gens
  have ed : d' = s.drawn := hm.drawn
  have eo : os' = s.os := hm.os
  subst eg ed eo
  exact hQ hp' tk' fun b o e => hm.heap b o (fun hb => Nat.ne_of_lt (Heap.lt_size e) (List.mem_singleton.mp hb)) (hs₁.extBut b o (Nat.ne_of_lt (Heap.lt_size e)) (Heap.get?_push_of_some _ e))
end
theorem pgs_starred {X : Cx} {e : Expr} {p : Pos} {es : List Expr} {t : TG} {u : TGs} (h1 : PG X e t) (h2 : PGs X es u)
    (hs : (assignEach (.Starred e p :: es) X.env).map (·.2) = assign e X.env :: (assignEach es X.env).map (·.2) := by rfl) : PGs X (.Starred e p :: es) (gCons t u) := by
  refine ⟨fun pins s σ H vs us Q I r h => ?_⟩
  obtain ⟨v, vr, e1, h⟩ := h
  subst e1
  cases r with
  | cons r rr =>
    rw [hs]
    refine assignInOrder_cons (thn (h1.run pins s σ H _ _ _ I r h) fun _ s1 ⟨σ1, H1, I1, q1⟩ => ?_)
    exact h2.run pins s1 σ1 H1 _ _ Q I1 rr q1
/-- x, *r = a tuple: the first one, a new list of the others -/
def gHdRest (K : PySem.W.Frag) (t : TGs) : TG := fun v σ H Q => ∃ a x xs, v = .ref a ∧ SqT K H a (x :: xs) ∧ New H (.lst xs) fun r H' => t [x, r] σ H' Q
theorem pg_hdRest {X : Cx} {es : List Expr} {k : Nat} {pos : Pos} {t : TGs} (hc : X.calm = true) (h : PGs X es t)
    (hn : (assignEach es X.env).length = 2 := by rfl) (hst : (assignEach es X.env).findIdx? (·.1) = some 1 := by rfl) : PG X (.Tuple es k pos) (gHdRest X.K t) := by
  refine ⟨fun pins s σ H v u Q I r hw => ?_⟩
  obtain ⟨a, x, xs, e1, hq, hw⟩ := hw
  subst e1
  cases r
  obtain ⟨its, rv, ht, hz⟩ := I.tuple hq
  cases rv with
  | @cons _ u1 _ us r1 r2 =>
    rw [assign_Tuple]
    refine wpAny_bind (wpAny_standAt ?_)
    unfold unpack
    rw [hn, hst]
    have hz' : us.length ≤ sizeLine := by rw [← r2.length]; exact Nat.le_trans (Nat.le_succ _) hz
    refine wpAny_bind (wpAny_holding (unpack_hd_rest (I.ok.hd hc) (I.ok.hd hc) ht hz' fun h' tk hk => ?_))
    have I1 : Inv X pins σ H { s with heap := h', toks := tk } := I.kept (t' := tk) hk
    have I2 := I1.laid (t' := tk) (a := h'.objs.size) (o := .lst xs) (fun b ob q => Heap.get?_push_of_some { cls := .type "list", data := .seq us.toArray } q) (Nat.le_refl _) ⟨Nat.le_trans (Nat.le_succ _) hz, us, 0, r2, Heap.get?_push_size _ rfl⟩
    exact h.run pins _ σ _ [x, .ref h'.objs.size] [u1, .ref h'.objs.size] Q I2 (.cons r1 (.cons rfl .nil)) (hw.go _ (I1.hok.fresh (Nat.le_refl _)))
/-! ### a star at any place -/
section
variable {prog : Program} {w : World} {A : Around} {E : Value → Shared → Prop} {s : Shared}
theorem walks_offK {I : Addr} {fp wr : List Addr} {n : Nat} {P : Nat → Value → Prop} {St : Nat → Heap → Prop} (k : Nat) (W : Walks prog w A I fp wr (k + n) P St) : Walks prog w A I fp wr n (fun i => P (k + i)) (fun i => St (k + i)) where
  sub := W.sub
  frame := fun i => W.frame (k + i)
  item := fun i s Q E hi st hQ => W.item (k + i) s Q E (Nat.add_lt_add_left hi k) st hQ
  done := fun s Q E st hQ => W.done s Q E st hQ
  self := fun i => W.self (k + i)
theorem unpack_star {t : Addr} {ps ms qs : List Value} {Q : List Value → Shared → Prop} (hh : A.handled = none) (hh1 : A.in1.handled = none) (ht : IsTup s.heap t (ps ++ (ms ++ qs)).toArray) (hz : (ms ++ qs).length ≤ sizeLine)
    (hQ : ∀ (h' : Heap) (tk : Nat), (∀ b o, s.heap.get? b = some o → h'.get? b = some o) → Q (ps ++ [.ref h'.objs.size] ++ qs) { s with heap := h'.push { cls := .type "list", data := .seq ms.toArray }, toks := tk }) :
    wpAny (model prog w) A (unpackItems (.ref t) (ps.length + 1 + qs.length) (some ps.length)) Q E s := by
  have hlt : t ≠ s.heap.objs.size := by obtain ⟨o, ho, _⟩ := ht; exact Nat.ne_of_lt (Heap.lt_size ho)
  unfold unpackItems
  refine wpAny_bind ?_
  unfold notIterableAtAll
  refine wpAny_bind (wpAny_specialOf ht.typeIs slot_tuple_iter.lookup ?_)
  refine wpAny_pure ?_
  simp only [Bool.false_eq_true, if_false]
  refine wpAny_bind (wpAny_holding (iter_tuple ht ?_))
  refine wpAny_bind (wpAny_holding (draw_tuple hlt ps.length 0 _ _ ⟨_, Heap.get?_push_size _ rfl, rfl, rfl⟩ (ht.push _) (by simp) fun h₁ hit₁ hs₁ => ?_))
  have hall : List.take ps.length (List.drop 0 (ps ++ (ms ++ qs)).toArray.toList) = ps := by
    rw [List.drop_zero]
    exact List.take_left
  rw [hall]
  rw [if_neg (by simp)]
  have ht₁ : IsTup h₁ t (ps ++ (ms ++ qs)).toArray := (ht.push _).extBut hs₁.extBut hlt
  have W0 : Walks prog w A.in1 s.heap.objs.size [s.heap.objs.size, t] [s.heap.objs.size] (ps.length + (ms ++ qs).length) (fun i v => (ps ++ (ms ++ qs)).toArray[i]? = some v) (fun i h => h.IsTupleIter s.heap.objs.size t i ∧ h.IsTuple t (ps ++ (ms ++ qs)).toArray) := by
    rw [show ps.length + (ms ++ qs).length = (ps ++ (ms ++ qs)).toArray.size from by rw [List.size_toArray, List.length_append (as := ps)]]
    exact Walks.tuple hh1 s.heap.objs.size t hlt (ps ++ (ms ++ qs)).toArray
  have W := walks_offK ps.length W0
  refine wpAny_bind (wpAny_holding (wpAny_collect_iter (.inr (.inr (.inr rfl))) W.toS (fun i s st => st.1.typeIs) ⟨by rw [Nat.add_zero, ← Nat.zero_add ps.length]; exact hit₁, ht₁⟩ (fun b hb => ?_) (by simp) (fun s' acc hm hacc => ?_) hz))
  · have hI := hit₁
    obtain ⟨o, ho, _⟩ := hI
    obtain ⟨o2, ho2, _⟩ := ht₁
    rcases List.mem_cons.mp hb with rfl | hb
    · exact Heap.lt_size ho
    · rw [List.mem_singleton.mp hb]; exact Heap.lt_size ho2
  have ea : acc.toList = ms ++ qs := by
    obtain ⟨hl, hi⟩ := hacc
    apply List.ext_getElem?
    intro j
    by_cases hj : j < acc.toList.length
    · rw [List.getElem?_eq_getElem hj]
      have := hi j acc[j] (by rw [Array.getElem?_eq_getElem])
      have this : (ps ++ (ms ++ qs)).toArray[ps.length + j]? = some acc[j] := this
      rw [List.getElem?_toArray, List.getElem?_append_right (by omega), Nat.add_sub_cancel_left] at this
      exact this.symm
    · rw [List.getElem?_eq_none (by omega), List.getElem?_eq_none (by rw [Array.length_toList] at hj; omega)]
  rw [ea]
  have e1 : ps.length + 1 + qs.length - 1 - ps.length = qs.length := by omega
  rw [e1, if_neg (by rw [List.length_append]; omega)]
  have e2 : (ms ++ qs).length - qs.length = ms.length := by rw [List.length_append]; omega
  rw [e2, List.take_left, List.drop_left]
  refine wpAny_bind (m := newList ms) (wpAny_newObj_type ?_ (by
    show ms.toArray.size ≤ _
    rw [List.size_toArray]
    rw [List.length_append] at hz
    exact Nat.le_trans (Nat.le_add_right _ _) hz))
  refine wpAny_pure ?_
  obtain ⟨hp', g', d', tk', os'⟩ := s'
  have eg : g' = s.gens := hm.gens
  have ed : d' = s.drawn := hm.drawn
  have eo : os' = s.os := hm.os
  subst eg ed eo
  exact hQ hp' tk' fun b o e => hm.heap b o (fun hb => Nat.ne_of_lt (Heap.lt_size e) (List.mem_singleton.mp hb)) (hs₁.extBut b o (Nat.ne_of_lt (Heap.lt_size e)) (Heap.get?_push_of_some _ e))
end
theorem vals_app {ps qs : List V} {us : List Value} (h : Vals (ps ++ qs) us) : ∃ u1 u2, us = u1 ++ u2 ∧ Vals ps u1 ∧ Vals qs u2 := by
  refine ⟨us.take ps.length, us.drop ps.length, (List.take_append_drop _ _).symm, ?_, ?_⟩
  · have := h.take ps.length
    rwa [List.take_left] at this
  · have := h.drop ps.length
    rwa [List.drop_left] at this
/-- .., *r, .. = a tuple: those ahead, a new list of those amid, those behind -/
def gStar (K : PySem.W.Frag) (i j : Nat) (t : TGs) : TG := fun v σ H Q => ∃ a ps ms qs, v = .ref a ∧ ps.length = i ∧ qs.length = j ∧ SqT K H a (ps ++ (ms ++ qs)) ∧ New H (.lst ms) fun r H' => t (ps ++ [r] ++ qs) σ H' Q
theorem pg_star {X : Cx} {es : List Expr} {k : Nat} {pos : Pos} {t : TGs} (i j : Nat) (hc : X.calm = true) (h : PGs X es t)
    (hn : (assignEach es X.env).length = i + 1 + j := by rfl) (hst : (assignEach es X.env).findIdx? (·.1) = some i := by rfl) : PG X (.Tuple es k pos) (gStar X.K i j t) := by
  refine ⟨fun pins s σ H v u Q I r hw => ?_⟩
  obtain ⟨a, ps, ms, qs, e1, lp, lq, hq, hw⟩ := hw
  subst e1
  cases r
  obtain ⟨its, rv, ht, hz⟩ := I.tuple hq
  obtain ⟨us, r1, e2, rp, rv⟩ := vals_app rv
  obtain ⟨um, uq, e3, rm, rq⟩ := vals_app rv
  subst e2 e3
  rw [assign_Tuple]
  refine wpAny_bind (wpAny_standAt ?_)
  unfold unpack
  rw [hn, hst]
  have hz' : (um ++ uq).length ≤ sizeLine := by
    have := rm.length
    have := rq.length
    have := rp.length
    rw [List.length_append, List.length_append] at hz
    rw [List.length_append]
    omega
  have hl1 : us.length = i := by rw [← rp.length]; exact lp
  have hl2 : uq.length = j := by rw [← rq.length]; exact lq
  rw [← hl1, ← hl2]
  refine wpAny_bind (wpAny_holding (unpack_star (I.ok.hd hc) (I.ok.hd hc) ht hz' fun h' tk hk => ?_))
  have I1 : Inv X pins σ H { s with heap := h', toks := tk } := I.kept (t' := tk) hk
  have I2 := I1.laid (t' := tk) (a := h'.objs.size) (o := .lst ms) (fun b ob q => Heap.get?_push_of_some { cls := .type "list", data := .seq um.toArray } q) (Nat.le_refl _) ⟨by rw [rm.length]; rw [List.length_append] at hz'; omega, um, 0, rm, Heap.get?_push_size _ rfl⟩
  exact h.run pins _ σ _ (ps ++ [.ref h'.objs.size] ++ qs) (us ++ [.ref h'.objs.size] ++ uq) Q I2 ((rp.append (Paired.cons (show RelV (V.ref h'.objs.size) (Value.ref h'.objs.size) from rfl) .nil)).append rq) (hw.go _ (I1.hok.fresh (Nat.le_refl _)))
end My

/-! ### trees looked through -/
namespace My
open PySem PySem.Spec PyProof.Rows L2
def spO (q : Int × Int × Int × Int) : Option (List V) := some [.int q.1, .int q.2.1, .int q.2.2.1, .int q.2.2.2]
theorem sps_ths {H : Hp} {vs : List V} {qs : List (Int × Int × Int × Int)} (h : SpsAt H vs qs) : ThsAt H vs (qs.map spO) := ⟨by rw [List.length_map]; exact h.1, fun i v o e1 e2 => by
  rw [List.getElem?_map] at e2
  cases e : qs[i]? with
  | none => rw [e] at e2; cases e2
  | some q =>
    rw [e] at e2
    cases e2
    obtain ⟨p, rfl, g⟩ := h.2 i v q e1 e
    exact .tup p _ g fun x mx => by
      simp only [List.mem_cons, List.not_mem_nil, or_false] at mx
      rcases mx with rfl | rfl | rfl | rfl <;> exact ⟨_, .int _⟩⟩
/-- a pair of a box and its holder's name -/
def PrAt (H : Hp) (v : V) (e : Addr × List Nat × V) : Prop := ∃ p, v = .ref p ∧ H p = some (.tup [.ref e.1, e.2.2])
def PrsAt (H : Hp) (vs : List V) (es : List (Addr × List Nat × V)) : Prop := vs.length = es.length ∧ ∀ (i : Nat) (v : V) (e : Addr × List Nat × V), vs[i]? = some v → es[i]? = some e → PrAt H v e
theorem PrAt.ks {H H' : Hp} {v : V} {e : Addr × List Nat × V} (h : PrAt H v e) (p : KeepS H H') : PrAt H' v e := let ⟨q, a, g⟩ := h; ⟨q, a, p.tup g⟩
theorem PrsAt.ks {H H' : Hp} {vs : List V} {es : List (Addr × List Nat × V)} (h : PrsAt H vs es) (p : KeepS H H') : PrsAt H' vs es := ⟨h.1, fun i v e a b => (h.2 i v e a b).ks p⟩
theorem PrsAt.nil {H : Hp} : PrsAt H [] [] := ⟨rfl, fun i v e a => by cases a⟩
theorem PrsAt.app {H : Hp} {vs ws : List V} {es fs : List (Addr × List Nat × V)} (h : PrsAt H vs es) (k : PrsAt H ws fs) : PrsAt H (vs ++ ws) (es ++ fs) := ⟨by rw [List.length_append, List.length_append, h.1, k.1], fun i v e a b => by
  by_cases hi : i < vs.length
  · rw [List.getElem?_append_left hi] at a
    rw [List.getElem?_append_left (by rw [← h.1]; exact hi)] at b
    exact h.2 i v e a b
  · rw [List.getElem?_append_right (by omega)] at a
    rw [List.getElem?_append_right (by rw [← h.1]; omega), ← h.1] at b
    exact k.2 _ v e a b⟩
theorem PrsAt.one {H : Hp} {p : Addr} {e : Addr × List Nat × V} (g : H p = some (.tup [.ref e.1, e.2.2])) : PrsAt H [.ref p] [e] := ⟨rfl, fun i v e' a b => by
  match i, a, b with
  | 0, a, b => cases a; cases b; exact ⟨p, rfl, g⟩
  | n + 1, a, _ => cases a⟩
end My
namespace My
open PySem PySem.Spec PyProof.Rows L2
/-! all boxes of a tree -/
mutual
def At.all : At → List At
  | .mk x n s o ks => .mk x n s o ks :: allL ks
def allL : List At → List At
  | [] => []
  | k :: ks => k.all ++ allL ks
end
theorem At.all_eq (t : At) : t.all = t :: allL t.kids := by cases t; rw [At.all]; rfl
theorem mem_preL {e : Addr × List Nat × V} {h : V} : ∀ {ks : List At}, e ∈ preL ks h → ∃ k ∈ ks, e ∈ k.pre h
  | [], m => by rw [preL] at m; cases m
  | k :: ks, m => by
    rw [preL] at m
    rcases List.mem_append.mp m with m | m
    · exact ⟨k, List.mem_cons_self, m⟩
    · obtain ⟨j, mj, q⟩ := mem_preL m
      exact ⟨j, List.mem_cons_of_mem _ mj, q⟩
theorem mem_allL {b k : At} (h : b ∈ k.all) : ∀ {ks : List At}, k ∈ ks → b ∈ allL ks
  | j :: ks, m => by
    rw [allL]
    rcases List.mem_cons.mp m with rfl | m
    · exact List.mem_append_left _ h
    · exact List.mem_append_right _ (mem_allL h m)
theorem pre_box {bc : Kd → Addr} {S : Addr} {K : PySem.W.Frag} {H : Hp} {t : At} (hb : BoxAt bc S K H t) : ∀ (h : V) (e : Addr × List Nat × V), e ∈ t.pre h → ∃ b : At, BoxAt bc S K H b ∧ b.x = e.1 ∧ b.nm = e.2.1 ∧ b ∈ t.all := by
  have key : ∀ t : At, BoxAt bc S K H t → (∀ k ∈ t.kids, ∀ (h : V) (e : Addr × List Nat × V), e ∈ k.pre h → ∃ b : At, BoxAt bc S K H b ∧ b.x = e.1 ∧ b.nm = e.2.1 ∧ b ∈ k.all) → ∀ (h : V) (e : Addr × List Nat × V), e ∈ t.pre h → ∃ b : At, BoxAt bc S K H b ∧ b.x = e.1 ∧ b.nm = e.2.1 ∧ b ∈ t.all := fun t hb ih h e m => by
    rw [t.pre_eq] at m
    rcases List.mem_cons.mp m with rfl | m
    · exact ⟨t, hb, rfl, rfl, by rw [t.all_eq]; exact List.mem_cons_self⟩
    · obtain ⟨k, mk, q⟩ := mem_preL m
      obtain ⟨b, h1, h2, h3, h4⟩ := ih k mk _ e q
      exact ⟨b, h1, h2, h3, by rw [t.all_eq]; exact List.mem_cons_of_mem _ (mem_allL h4 mk)⟩
  induction hb with
  | words hx hy ok hn ht => exact key _ (.words hx hy ok hn ht) fun k m => by cases m
  | picture hx hy ok hn ha hd => exact key _ (.picture hx hy ok hn ha hd) fun k m => by cases m
  | row hx hy ok hn g0 l0 hb lk hk ih => exact key _ (.row hx hy ok hn g0 l0 hb lk hk) ih
  | pile hx hy ok hn g0 hb lk hk ih => exact key _ (.pile hx hy ok hn g0 hb lk hk) ih
  | grid hx hy ok hn g0 l0 hb lk hk hc tc oc nc hr tr or nr hs ts lsp lcs lrs ih => exact key _ (.grid hx hy ok hn g0 l0 hb lk hk hc tc oc nc hr tr or nr hs ts lsp lcs lrs) ih
def keyS (l : List Nat) : Key := .inr (sO l)
theorem keyS_inj {a b : List Nat} (h : keyS a = keyS b) : a = b := by
  have := Sum.inr.inj h
  have := congrArg (fun z : Str => z.cps.toList) this
  simpa [sO] using this
def bxs (es : List (Addr × List Nat × V)) : List (Key × V) := es.map fun e => (keyS e.2.1, .ref e.1)
def hds (es : List (Addr × List Nat × V)) : List (Key × V) := es.map fun e => (keyS e.2.1, e.2.2)
def nms (es : List (Addr × List Nat × V)) : List V := es.map fun e => .str (sO e.2.1)
theorem val_none {f : Addr × List Nat × V → V} {l : List Nat} : ∀ {es : List (Addr × List Nat × V)}, l ∉ es.map (·.2.1) → valV (es.map fun e => (keyS e.2.1, f e)) (keyS l) = none
  | [], _ => rfl
  | e :: es, h => by
    rw [List.map_cons] at h
    have h1 : e.2.1 ≠ l := fun z => h (z ▸ List.mem_cons_self)
    have h2 : l ∉ es.map (·.2.1) := fun z => h (List.mem_cons_of_mem _ z)
    have ih := val_none (f := f) h2
    have hk : keyS e.2.1 ≠ keyS l := fun z => h1 (keyS_inj z)
    rw [List.map_cons]
    unfold valV at ih ⊢
    rw [List.find?_cons]
    simp only [decide_eq_false hk]
    exact ih
theorem val_at {f : Addr × List Nat × V → V} : ∀ {es : List (Addr × List Nat × V)}, (es.map (·.2.1)).Nodup → ∀ {e : Addr × List Nat × V}, e ∈ es → valV (es.map fun e => (keyS e.2.1, f e)) (keyS e.2.1) = some (f e)
  | [], _, e, m => by cases m
  | a :: es, nd, e, m => by
    rw [List.map_cons, List.nodup_cons] at nd
    rcases List.mem_cons.mp m with rfl | m
    · rw [List.map_cons]
      unfold valV
      rw [List.find?_cons]
      simp
    · have ih := val_at (f := f) nd.2 m
      have hk : keyS a.2.1 ≠ keyS e.2.1 := fun z => nd.1 (by rw [keyS_inj z]; exact List.mem_map_of_mem m)
      rw [List.map_cons]
      unfold valV at ih ⊢
      rw [List.find?_cons]
      simp only [decide_eq_false hk]
      exact ih
/-- a tree looked through -/
def NestAt (C : Addr) (H : Hp) (x : Addr) (t : At) : Prop := ∃ (dx o d1 d2 : Addr), H x = some (.ins C dx [("order", .ref o), ("box_by", .ref d1), ("holder_by", .ref d2)]) ∧ H o = some (.lst (nms (t.pre .non))) ∧ H d1 = some (.dK (bxs (t.pre .non))) ∧ H d2 = some (.dK (hds (t.pre .non)))
section
variable {K : PySem.W.Frag} {a : Addr} {xs : List V} {g : TG} {tt : TT} {tk tv : TE} {vs : List Nat} {σ : L2.St} {H1 : Hp} {D : Addr} {Qd : Hp → Prop}
/-- a dict comprehension over a list that stays -/
theorem dcL (Pv : Nat → Hp → Prop) (h0 : Pv 0 (upd H1 D (.dK []))) (hl : ∀ i H, i ≤ xs.length → Pv i H → SqL K H a xs)
    (hs : ∀ i x H, xs[i]? = some x → Pv i H → g x (wipe σ vs) H fun σ2 H2 => wipe σ2 vs = wipe σ vs ∧ tt σ2 H2 fun b H3 =>
      if b = true then tk σ2 H3 fun y H4 => tv σ2 H4 fun z H5 => ∃ kvs k, y = kV k ∧ H5 D = some (.dK kvs) ∧ kvs.length < sizeLine ∧ Pv (i + 1) (upd H5 D (.dK (putK kvs k z))) else Pv (i + 1) H3) (hd : ∀ H, Pv xs.length H → Qd H) :
    ∃ W : Nat → Nat → Hp → Prop, (∃ m, W 0 m (upd H1 D (.dK []))) ∧ ∀ i m H, W i m H →
      ((Itl K a).stop i H ∧ Qd H) ∨ ((Itl K a).go i H ∧ ∃ Nx : Hp → Prop, (∀ H', Nx H' → ∃ m', m' < m ∧ W (i + 1) m' H') ∧ ∀ x H', (Itl K a).yld i H x H' → g x (wipe σ vs) H' fun σ2 H2 => wipe σ2 vs = wipe σ vs ∧ tt σ2 H2 fun b H3 =>
        if b = true then tk σ2 H3 fun y H4 => tv σ2 H4 fun z H5 => ∃ kvs k, y = kV k ∧ H5 D = some (.dK kvs) ∧ kvs.length < sizeLine ∧ Nx (upd H5 D (.dK (putK kvs k z))) else Nx H3) := by
  refine ⟨fun i m H => m = xs.length - i ∧ i ≤ xs.length ∧ Pv i H, ⟨xs.length, by simp, Nat.zero_le _, h0⟩, ?_⟩
  rintro i m H ⟨rfl, hi, p⟩
  have q := hl i H hi p
  by_cases hlt : i < xs.length
  · refine .inr ⟨⟨xs, xs[i], q, by simp [hlt]⟩, Pv (i + 1), fun H' p' => ⟨xs.length - (i + 1), by omega, rfl, hlt, p'⟩, fun x H' y => ?_⟩
    obtain ⟨e, y⟩ := y
    subst e
    exact hs i x _ (y xs q) p
  · have e : i = xs.length := by omega
    subst e
    exact .inl ⟨⟨xs, q, Nat.le_refl _⟩, hd H p⟩
end
/-- a told size that hangs on no strange name -/
def TieOk (names : List (List Nat)) (H : Hp) (v : V) : Prop := ∀ (a : Addr) (l : List Nat) (x y z : V), v = .ref a → H a = some (.tup [x, .str (sO l), y, z]) → l ∈ names
theorem range_nms (es : List (Addr × List Nat × V)) {n : Nat} (h : n = es.length) : ((List.range n).map fun i => (nms es).getD i .non) = nms es := by
  subst h
  refine List.ext_getElem (by unfold nms; simp) fun i h1 h2 => ?_
  have hi : i < es.length := by unfold nms at h2; simpa using h2
  simp [List.getD_eq_getElem?_getD, List.getElem?_eq_getElem h2]
theorem nms_at {es : List (Addr × List Nat × V)} {i : Nat} {e : Addr × List Nat × V} (h : es[i]? = some e) : (nms es).getD i .non = .str (sO e.2.1) := by
  unfold nms
  rw [List.getD_eq_getElem?_getD, List.getElem?_map, h]; rfl
theorem take_new {es : List (Addr × List Nat × V)} (nd : (es.map (·.2.1)).Nodup) {i : Nat} {e : Addr × List Nat × V} (h : es[i]? = some e) : e.2.1 ∉ (es.take i).map (·.2.1) := by
  intro m
  have e1 : (es.map (·.2.1))[i]? = some e.2.1 := by rw [List.getElem?_map, h]; rfl
  rw [List.map_take] at m
  obtain ⟨j, hj⟩ := List.getElem?_of_mem m
  rw [List.getElem?_take] at hj
  split at hj
  · next q =>
    have hl := (List.getElem?_eq_some_iff.mp e1).1
    have e2 := (List.getElem?_inj hl nd).mp (e1.trans hj.symm)
    omega
  · cases hj
theorem put_take {f : Addr × List Nat × V → V} {es : List (Addr × List Nat × V)} (nd : (es.map (·.2.1)).Nodup) {i : Nat} {e : Addr × List Nat × V} (h : es[i]? = some e) :
    putK ((es.take i).map fun e => (keyS e.2.1, f e)) (keyS e.2.1) (f e) = (es.take (i + 1)).map fun e => (keyS e.2.1, f e) := by
  rw [putK_new _ (val_none (take_new nd h)), List.take_add_one, h, List.map_append]; rfl
/-- a tree that is let by: unlike names, ties to its names, no part in the first box -/
structure TreeOk (H : Hp) (t : At) : Prop where
  nd : ((t.pre .non).map (·.2.1)).Nodup
  ties : ∀ b ∈ t.all, TieOk ((t.pre .non).map (·.2.1)) H (b.st.getD 0 .non) ∧ TieOk ((t.pre .non).map (·.2.1)) H (b.st.getD 1 .non)
  root : ∀ (i : Nat) (a : Addr) (xs : List V), i < 2 → t.st.getD i .non = .ref a → H a = some (.tup xs) → xs.length ≠ 2
end My
namespace My
open PySem PySem.Spec PyProof.Rows L2
/-- a told size: none, cells, a part where that may be, a tie to one of the names -/
def SzIn (names : List (List Nat)) (H : Hp) (part : Bool) (v : V) : Prop := v = .non ∨ (∃ n : Nat, v = .int (n : Int)) ∨ (part = true ∧ ∃ (a : Addr) (n : Nat), v = .ref a ∧ H a = some (.tup [sX "part", .int (n : Int)])) ∨ ∃ (a : Addr) (l : List Nat) (sd : String) (m : Int), v = .ref a ∧ H a = some (.tup [sX "as", .str (sO l), sX sd, .int m]) ∧ l ∈ names
section
variable {H H' : Hp} {v : V} {names : List (List Nat)} {p : Bool} {t : At}
theorem SzIn.ks (h : SzIn names H p v) (k : KeepS H H') : SzIn names H' p v := by
  rcases h with h | h | ⟨e, a, n, e1, g⟩ | ⟨a, l, sd, m, e1, g, q⟩
  · exact .inl h
  · exact .inr (.inl h)
  · exact .inr (.inr (.inl ⟨e, a, n, e1, k.tup g⟩))
  · exact .inr (.inr (.inr ⟨a, l, sd, m, e1, k.tup g, q⟩))
theorem sO_inj {a b : List Nat} (h : sO a = sO b) : a = b := by
  have := congrArg (fun z : Str => z.cps.toList) h
  simpa [sO] using this
theorem SzIn.tie (h : SzIn names H p v) : TieOk names H v := by
  intro a l x y z e g
  rcases h with h | ⟨n, h⟩ | ⟨_, a', n, e1, g'⟩ | ⟨a', l', sd, m, e1, g', q⟩
  · rw [h] at e; cases e
  · rw [h] at e; cases e
  · rw [e1] at e; cases e; rw [g'] at g; cases g
  · rw [e1] at e
    cases e
    rw [g'] at g
    have g := HO.tup.inj (Option.some.inj g)
    simp only [List.cons.injEq, V.str.injEq] at g
    rw [← sO_inj g.2.1]
    exact q
theorem SzIn.nopart (h : SzIn names H false v) {a : Addr} {xs : List V} (e : v = .ref a) (g : H a = some (.tup xs)) : xs.length ≠ 2 := by
  rcases h with h | ⟨n, h⟩ | ⟨q, _⟩ | ⟨a', l', sd, m, e1, g', q⟩
  · rw [h] at e; cases e
  · rw [h] at e; cases e
  · cases q
  · rw [e1] at e
    cases e
    rw [g'] at g
    cases g
    show 4 ≠ 2
    decide
/-- a tree that is let by, told so that it stays so -/
structure TreeIn (H : Hp) (t : At) : Prop where
  nd : ((t.pre .non).map (·.2.1)).Nodup
  ties : ∀ b ∈ t.all, SzIn ((t.pre .non).map (·.2.1)) H true (b.st.getD 0 .non) ∧ SzIn ((t.pre .non).map (·.2.1)) H true (b.st.getD 1 .non)
  root : SzIn ((t.pre .non).map (·.2.1)) H false (t.st.getD 0 .non) ∧ SzIn ((t.pre .non).map (·.2.1)) H false (t.st.getD 1 .non)
theorem TreeIn.ks (h : TreeIn H t) (k : KeepS H H') : TreeIn H' t := ⟨h.nd, fun b m => ⟨(h.ties b m).1.ks k, (h.ties b m).2.ks k⟩, h.root.1.ks k, h.root.2.ks k⟩
theorem TreeIn.ok (h : TreeIn H t) : TreeOk H t := ⟨h.nd, fun b m => ⟨(h.ties b m).1.tie, (h.ties b m).2.tie⟩, fun i a xs hi e g => by
  rcases (show i = 0 ∨ i = 1 by omega) with rfl | rfl
  · exact h.root.1.nopart e g
  · exact h.root.2.nopart e g⟩
end
end My
namespace My
open PySem PySem.Spec PyProof.Rows L2
theorem NestAt.same {C : Addr} {H H' : Hp} {x : Addr} {t : At} (h : NestAt C H x t) (s : Same H H') : NestAt C H' x t := let ⟨dx, o, d1, d2, a, b, c, d⟩ := h; ⟨dx, o, d1, d2, s _ _ a, s _ _ b, s _ _ c, s _ _ d⟩
end My

/-! ### a plain thing != [] -/
namespace PySem.SeqAt
open MeetsSeq MeetsSeq2 MeetsSeq3
theorem my_list_ne_declines_dict (l b : Addr) (items : Array Value) (n : Nat) (dd : Option Addr) (sl : Array (Option Value)) (o : Obj) (ho : o.cls = .type "dict") :
    Meets (Builtin.«list.__ne__» ⟨[.ref l, .ref b], []⟩) (fun _ R s => s.heap.get? l = some { cls := .type "list", dict := dd, data := .seq items n, slots := sl } ∧ s.heap.get? b = some o ∧ R (.ok (.ret .notImplemented)) s) :=
  .of_wp fun prog w A R s h => by obtain ⟨hp, g, d, tk, os⟩ := s; obtain ⟨hl, hb, h⟩ := h; obtain ⟨cls, dd2, data2, sl2⟩ := o; subst ho; have f1 := F.sub_dict_list; wp_walk using _root_.PySem.AutoSeq1.wpAny_loadPart' hl, _root_.PySem.AutoSeq1.wpAny_loadPart' hb; exact ⟨_, rfl, h⟩
theorem my_dict_ne_declines {M : Unit} {prog : Program} {w : World} {A : Around} {E Q : Value → Shared → Prop} {s : Shared} {a b : Addr} (da : s.TypeIs (.ref a) "dict") (tb : s.TypeIs (.ref b) "list") (h : Q .notImplemented s) :
    wpAny (model prog w) A (call (.builtin "dict.__ne__") [.ref a, .ref b]) Q E s := by
  refine wpAny_call_entry PySem.F.slot_dict_ne da PySem.F.entry_dict_ne ?_ (PySem.F.args_dict_ne_2 _ _)
  show wpAny _ _ (Builtin.Dict.dictSlotArgs "__ne__" ⟨[.ref a, .ref b], []⟩ >>= _) _ _ s
  refine wpAny_bind ?_
  unfold Builtin.Dict.dictSlotArgs
  refine wpAny_bind (wpAny_notOrdered_dict da ?_)
  show wpAny _ _ (pure (Value.ref a, Value.ref b)) _ _ s
  refine wpAny_pure ?_
  refine wpAny_bind (wpAny_isInstance (T := "list") tb PySem.F.sub_list_dict ?_)
  simp only [Bool.not_false, if_true]
  exact wpAny_bind (wpAny_rule (wpAny_pure ⟨_, rfl, h⟩))
theorem RcNeAt.my_dict_list {A : Around} {s : Shared} {l b : Addr} {o : Obj} {items2 : Array Value} (ho : s.heap.get? l = some o) (oc : o.cls = .type "dict") (hb : s.heap.IsList b items2) (hu : A.units < cLine) : RcNeAt A s (.ref l) (.ref b) true := fun prog w E Q h => by
  obtain ⟨⟨cls2, dd2, data2, sl2⟩, ho2, hc2, n2, hd2⟩ := id hb
  simp only at hc2 hd2
  subst hc2 hd2
  have hne : l ≠ b := fun e => by subst e; rw [ho] at ho2; cases ho2; exact absurd oc (by simp)
  exact (rc_ne_decline_or (k := false) ⟨_, ho, oc⟩ ⟨_, ho2, rfl⟩ (by decide) F.sub_list_dict F.slot_dict_ne F.slot_list_ne_refl
    (fun _ hq => my_dict_ne_declines (M := ()) ⟨_, ho, oc⟩ ⟨_, ho2, rfl⟩ hq)
    (fun _ hq => call_meets F.slot_list_ne_refl ⟨_, ho2, rfl⟩ F.entry_list_ne (F.args_list_ne_2 _ _) (my_list_ne_declines_dict b l items2 n2 dd2 sl2 o oc) ⟨ho2, ho, hq⟩)
    (fun _ hq => wpAny_isSame_ref_other' hne ho ho2 (by simp) hq) (.inr hu) h)
end PySem.SeqAt
namespace My
open PySem PySem.Spec PyProof.Rows L2
def rNe0 (K : PySem.W.Frag) : R2 := fun x y H Q => ∃ b, y = .ref b ∧ SqL K H b [] ∧ ((∃ ty, Ty7 H x ty ∧ ty ≠ "list" ∧ Q (.bl true) H) ∨ ∃ a xs, x = .ref a ∧ SqL K H a xs ∧ Q (.bl (!xs.isEmpty)) H)
theorem op_ne0 {X : Cx} (hu : X.A.units + 64 < cLine) : OpR X (compareOp .NotEq) (rNe0 X.K) := by
  intro pins s σ H x y v u Q I rx ry h
  obtain ⟨b, rfl, hb, h⟩ := h
  cases (show u = Value.ref b from ry)
  obtain ⟨ws, r2, p2, _⟩ := I.list hb
  have h1 : X.A.units < cLine := by omega
  cases r2
  rcases h with ⟨ty, h7, n, q⟩ | ⟨a, xs, rfl, ha, q⟩
  · suffices hh : SeqAt.RcNeAt X.A s v (.ref b) true from hh _ _ _ _ ⟨.bl true, H, I, rfl, q⟩
    cases h7 with
    | non => cases (show v = Value.none from rx); exact (SeqAt.RcNeAt.none_list p2.isList h1)
    | bl t => cases (show v = Value.bool t from rx); exact (SeqAt.RcNeAt.bool_list t p2.isList h1)
    | int i => obtain ⟨tk, rfl⟩ := (show ∃ tk, v = Value.int i tk from rx); exact (SeqAt.RcNeAt.int_list i tk p2.isList h1)
    | str i => obtain ⟨tk, rfl⟩ := (show ∃ tk, v = Value.str i tk from rx); exact (SeqAt.RcNeAt.str_list i tk p2.isList h1)
    | lst g => exact absurd rfl n
    | @tup c zs g =>
      cases (show v = Value.ref c from rx)
      obtain ⟨us, r1, p1, _⟩ := I.tuple (sqT g)
      exact (SeqAt.RcNeAt.tuple_list p1 p2.isList h1)
    | @dK c kvs g =>
      cases (show v = Value.ref c from rx)
      obtain ⟨_, _, vs, _, d⟩ := I.hok _ _ g
      obtain ⟨o, ho, oc⟩ := d.typeIs
      exact (SeqAt.RcNeAt.my_dict_list ho oc p2.isList h1)
  · cases (show v = Value.ref a from rx)
    obtain ⟨us, r1, p1, _⟩ := I.list ha
    cases xs with
    | nil =>
      cases r1
      have k := SeqAt.RcNeAt.lists (e := fun _ => true) p1.isList p2.isList rfl h1 (fun j h1 h2 => absurd h1 (Nat.not_lt_zero j))
      exact k _ _ _ _ ⟨.bl false, H, I, rfl, q⟩
    | cons x xs =>
      cases r1 with
      | cons a1 b1 =>
        have k := SeqAt.RcNeAt.lists_lengths p1.isList p2.isList (by simp) h1
        exact k _ _ _ _ ⟨.bl true, H, I, rfl, q⟩
theorem op_ne0K {X : Cx} {K : PySem.W.Frag} (hu : X.A.units + 64 < cLine) (h : X.K = K) : OpR X (compareOp .NotEq) (rNe0 K) := by subst h; exact op_ne0 hu
end My

/-! ### what rules look at -/
namespace My
open PySem PySem.Spec PyProof.Rows L2
/-- whether a told size is a part -/
def PtAt (n : Nat) (H : Hp) (v : V) (p : Bool) : Prop := (∃ t, Ty7 H v t ∧ t ≠ "tuple" ∧ p = false) ∨ ∃ (a : Addr) (xs : List V), v = .ref a ∧ H a = some (.tup xs) ∧ p = decide (xs.length = n)
theorem PtAt.same {n : Nat} {H H' : Hp} {v : V} {p : Bool} (h : PtAt n H v p) (s : Same H H') : PtAt n H' v p := by
  rcases h with ⟨t, h, a, b⟩ | ⟨a, xs, e, h, b⟩
  · exact .inl ⟨t, h.mono s, a, b⟩
  · exact .inr ⟨a, xs, e, s _ _ h, b⟩
theorem PtAt.is {n : Nat} {H : Hp} {v : V} {p : Bool} {Q : VK} (h : PtAt n H v p) (q : Q (.bl p) H) : (∃ t, Ty7 H v t ∧ t ≠ "tuple" ∧ Q (.bl false) H) ∨ ∃ (a : Addr) (xs : List V), v = .ref a ∧ H a = some (.tup xs) ∧ Q (.bl (decide (xs.length = n))) H := by
  rcases h with ⟨t, h, a, rfl⟩ | ⟨a, xs, e, h, rfl⟩
  · exact .inl ⟨t, h, a, q⟩
  · exact .inr ⟨a, xs, e, h, q⟩
theorem pss_dead {X : Cx} {sts : List Stmt} : PSs X sts (fun _ _ _ => False) := ⟨fun _ _ _ _ _ _ h => h.elim⟩
theorem fun_ne {K : PySem.W.Frag} {x y x' y' : Str} {st st' : Stmt} {f f' : Addr} {fd fd' : FuncData} (F : Fun K x x' st f fd) (G : Fun K y y' st' f' fd') (h : x ≠ y) : f ≠ f' := by
  rintro rfl
  obtain ⟨oc, od, kV, doc, pm, an, cdv, ct, osl, e, l, _⟩ := F.ex
  obtain ⟨oc', od', kV', doc', pm', an', cdv', ct', osl', e', l', _⟩ := G.ex
  rw [l] at l'
  have q := Option.some.inj l'
  injection q with q1 q2 q3 q4
  injection q3 with q3
  rw [e, e'] at q3
  have := congrArg FuncData.name q3
  exact h this
end My

/-! ### names drawn unlike -/
namespace My
open PySem PySem.Spec PyProof.Rows L2
theorem cutS_dropN (l : List Nat) (m : Nat) (h : m ≤ l.length) : cutS (sO l) (some (m : Int)) none = sO (l.drop m) := by
  unfold cutS
  rw [HT.sIx_none, HT.sIx_nat, sO_len, Nat.min_eq_left h]
  show sO ((l.drop m).take (l.length - m)) = _
  rw [List.take_of_length_le (by rw [List.length_drop]; exact Nat.le_refl _)]
theorem letters_len : lettersL.length = 26 := by decide +kernel
theorem letters_nd : lettersL.Nodup := by decide +kernel
def letN (i : Int) : Nat := lettersL.getD i.toNat 0
theorem letN_at {i : Int} (h0 : 0 ≤ i) (h1 : i < 26) : atI lettersL i = some (letN i) := by
  obtain ⟨j, rfl⟩ := Int.eq_ofNat_of_zero_le h0
  have hj : j < lettersL.length := by rw [letters_len]; omega
  unfold letN atI
  rw [ixN_nat hj, Int.toNat_natCast, List.getD_eq_getElem?_getD, List.getElem?_eq_getElem hj]
  exact List.getElem?_eq_getElem hj
theorem letN_mem {i : Int} (h0 : 0 ≤ i) (h1 : i < 26) : letN i ∈ lettersL := by
  have h := letN_at h0 h1
  unfold atI at h
  obtain ⟨j, _, hj⟩ := Option.bind_eq_some_iff.mp h
  exact List.mem_of_getElem? hj
theorem letN_inj {i j : Int} (i0 : 0 ≤ i) (i1 : i < 26) (j0 : 0 ≤ j) (j1 : j < 26) (h : letN i = letN j) : i = j := by
  obtain ⟨a, rfl⟩ := Int.eq_ofNat_of_zero_le i0
  obtain ⟨b, rfl⟩ := Int.eq_ofNat_of_zero_le j0
  have ha : a < lettersL.length := by rw [letters_len]; omega
  have hb : b < lettersL.length := by rw [letters_len]; omega
  unfold letN at h
  rw [Int.toNat_natCast, Int.toNat_natCast, List.getD_eq_getElem?_getD, List.getD_eq_getElem?_getD, List.getElem?_eq_getElem ha, List.getElem?_eq_getElem hb] at h
  have h : lettersL[a] = lettersL[b] := h
  rw [(List.getElem_inj letters_nd).mp h]
def nameL (st : List Nat) (a : Nat) (sh : Int) (k : Nat) : List Nat := st.take a ++ [letN ((sh + 7 * (k : Int)) % 26)] ++ st.drop a ++ List.replicate (k % 2) 97
theorem nameL_ok {st : List Nat} {a : Nat} {sh : Int} {k : Nat} (h : st.length ≤ 6) (hm : ∀ c ∈ st, c ∈ lettersL) : NameOk (nameL st a sh k) := by
  unfold nameL
  have e := congrArg List.length (List.take_append_drop a st)
  rw [List.length_append] at e
  refine ⟨?_, ?_, fun c mc => ?_⟩
  · simp only [List.length_append, List.length_cons, List.length_nil]; omega
  · simp only [List.length_append, List.length_cons, List.length_nil, List.length_replicate]; omega
  · rw [List.mem_append, List.mem_append, List.mem_append] at mc
    rcases mc with ((mc | mc) | mc) | mc
    · exact hm c (List.mem_of_mem_take mc)
    · rw [List.mem_singleton.mp mc]
      exact letN_mem (Int.emod_nonneg _ (by decide)) (Int.emod_lt_of_pos _ (by decide))
    · exact hm c (List.mem_of_mem_drop mc)
    · rw [(List.mem_replicate.mp mc).2]; decide +kernel
theorem nameL_inj {st : List Nat} {a : Nat} {sh : Int} {j k : Nat} (ha : a ≤ st.length) (hj : j < 26) (hk : k < 26) (h : nameL st a sh j = nameL st a sh k) : j = k := by
  have hl : (st.take a).length = a := by rw [List.length_take]; omega
  have e : ∀ k, (nameL st a sh k)[a]? = some (letN ((sh + 7 * (k : Int)) % 26)) := fun k => by
    unfold nameL
    rw [List.append_assoc, List.append_assoc, List.getElem?_append_right (by omega), hl, Nat.sub_self]; rfl
  have e1 := e j
  rw [h, e k] at e1
  have := letN_inj (Int.emod_nonneg _ (by decide)) (Int.emod_lt_of_pos _ (by decide)) (Int.emod_nonneg _ (by decide)) (Int.emod_lt_of_pos _ (by decide)) (Option.some.inj e1)
  omega
/-- put in at a place -/
theorem put_in {α : Type} (ls : List α) (n : Nat) (y : α) : (ls.take n ++ [y] ++ ls.drop n).Perm (ls ++ [y]) := by
  rw [List.append_assoc]
  refine (List.perm_middle (l₁ := ls.take n) (a := y) (l₂ := ls.drop n)).trans ?_
  rw [List.take_append_drop]
  exact (List.perm_append_singleton y ls).symm
theorem names_ok {st : List Nat} {a : Nat} {sh : Int} {n : Nat} {ls : List (List Nat)} (h : st.length ≤ 6) (hm : ∀ c ∈ st, c ∈ lettersL) (ha : a ≤ st.length) (hn : n ≤ 26) (p : ls.Perm ((List.range n).map (nameL st a sh))) :
    ls.length = n ∧ (∀ l ∈ ls, NameOk l) ∧ ls.Nodup := by
  refine ⟨by rw [p.length_eq, List.length_map, List.length_range], fun l ml => ?_, p.nodup_iff.mpr ?_⟩
  · obtain ⟨k, _, rfl⟩ := List.mem_map.mp (p.mem_iff.mp ml)
    exact nameL_ok h hm
  · rw [List.nodup_iff_pairwise_ne, List.pairwise_map]
    refine (List.nodup_range (n := n)).imp_of_mem fun {j k} mj mk ne e => ne ?_
    exact nameL_inj ha (by have := List.mem_range.mp mj; omega) (by have := List.mem_range.mp mk; omega) e
section
variable {X : Cx}
/-- c * n, n not below 0 -/
def rRepS0 : R2 := fun x y H Q => ∃ (c : Nat) (n : Nat), x = .str ⟨#[c]⟩ ∧ y = .int (n : Int) ∧ n ≤ 1000 ∧ Q (.str (sO (List.replicate n c))) H
theorem op_repS0 : OpR X (binaryOp .Mult) rRepS0 := by
  intro pins s σ H x y v u Q I rx ry h
  obtain ⟨c, n, ex, ey, n2, q⟩ := h
  by_cases n1 : 1 ≤ n
  · exact op_repS pins s σ H x y v u Q I rx ry ⟨c, n, ex, ey, n1, n2, q⟩
  · have e : n = 0 := by omega
    subst e ex ey
    obtain ⟨t, rfl⟩ := rx
    obtain ⟨t', rfl⟩ := ry
    refine P.mul_str_none (by decide) (by decide) ?_
    exact ⟨.str (sO []), H, I.tok _, ⟨_, rfl⟩, q⟩
/-- what is never run -/
theorem ps_dead {st : Stmt} : PS X st (fun _ _ _ => False) := ⟨fun _ _ _ _ _ _ h => h.elim⟩
theorem pe_dead {e : Expr} : PE X e (fun _ _ _ => False) := ⟨fun _ _ _ _ _ _ h => h.elim⟩
end
end My
namespace My
open PySem PySem.Spec PyProof.Rows L2
theorem cutS_mid (l : List Nat) (a b : Nat) (h1 : a ≤ b) (h2 : b ≤ l.length) : cutS (sO l) (some (a : Int)) (some (b : Int)) = sO ((l.drop a).take (b - a)) := by
  unfold cutS
  rw [HT.sIx_nat, HT.sIx_nat, sO_len, Nat.min_eq_left (Nat.le_trans h1 h2), Nat.min_eq_left h2]
theorem cutS_any (l : List Nat) (u : Option Int) : ∃ m, cutS (sO l) none u = sO (l.take m) := by
  unfold cutS
  rw [HT.sIx_none]
  refine ⟨HT.sIx (sO l).length (sO l).length u - 0, ?_⟩
  rfl
end My

/-! ### a statement that gives a token out, and what may stand behind it -/
namespace My
open PySem PySem.Spec PyProof.Rows L2
def PEG (X : Cx) (e : Expr) (t : TE) : Prop :=
  ∀ (pins : List (Addr × Obj)) (s : Shared) (σ : L2.St) (H : Hp) (Q : VK), Inv X pins σ H s → t σ H Q → wpAny (model X.prog X.w) X.A (eval e X.env) (fun v s1 => 1 ≤ s1.toks ∧ EP X pins σ Q v s1) X.xe s
section
variable {X : Cx}
/-- 'c'.join(e) -/
theorem peg_joinN {K : PySem.W.Frag} (hK : X.K = K) {c : Str} {j : Nat} {cp : Pos} {e : Expr} {te : TE} {apos pos : Pos} (he : PE X e te) (hs : starEach [e] X.env = [(false, eval e X.env)] := by rfl) (hbase : attributeBase (.Constant (.str c) j cp) "join" X.env (eval (.Constant (.str c) j cp) X.env) = eval (.Constant (.str c) j cp) X.env := by rfl) (hline : (apos.endLine == pos.line) = true := by rfl) :
    PEG X (.Call (.Attribute (.Constant (.str c) j cp) "join" apos) [e] [] pos) (tM1 (fun x xs H Q => ∃ (a : List Nat) (p : Addr) (ys : List (List Nat)), x = .str (sO a) ∧ xs = [.ref p] ∧ SqL K H p (ys.map fun y => V.str (sO y)) ∧ (ys.map List.length).sum + ys.length * a.length ≤ 16777216 ∧ Q (.str (sO (TL.joinL a ys))) H) (tC (.str c)) te) := by
  intro pins s σ H Q I h
  refine PySem.Call_method1 hbase hs hline (PySem.Calls.Constant_str ?_)
  obtain ⟨_, q1⟩ := h
  refine ⟨"str", _, PySem.F.plainAttrs_str, PySem.F.slot_str_join, PySem.F.type_str_join, typeIs_str _ _ _, (fun _ e => nomatch e), Calls.callWith_builtin rfl (Calls.evalArgs_plain (Calls.spliced_cons ?_))⟩
  refine wpAny_mono (PySem.wpAny_toks_of (n := 1) (Nat.succ_le_succ (Nat.zero_le _)) (he.run pins _ σ H _ (I.tok (s.toks + 1)) q1)) (fun u s2 q => ?_) fun _ _ z => z.2
  obtain ⟨hk, y, H2, I2, r2, q2⟩ := q
  exact Calls.spliced_nil (wpAny_mono (PySem.wpAny_toks_of (n := 1) hk (mt_joinN hK pins s2 σ H2 (.str c) [y] _ [u] Q I2 ⟨s.toks, rfl⟩ (.cons r2 .nil) q2)) (fun _ _ z => z) fun _ _ z => z.2)
/-- x = e, e gives a token out -/
theorem pss_setG {i : Nat} {x : Str} {e : Expr} {te : TE} {pos' pos : Pos} {rest : List Stmt} {u : TS} (hN : X.N.Nodup) (hi : X.N[i]? = some x) (hx : Loc X.env.scope x) (he : PEG X e te) (h2 : PSsT X rest u)
    (hs : swapsWith e (some (.Name x pos')) pos.line X.env = pure false := by rfl) (hf : X.fn x = true ∨ X.env.scope.names.lookup x = some .local := by first | exact .inl rfl | exact .inr rfl | assumption) :
    PSs X (.Assign [.Name x pos'] e pos :: rest) (tSeq (tAsg te (gName i)) u) := by
  refine ⟨fun pins s σ H D I h => ?_⟩
  refine wpAny_execs_cons (wpAny_Assign_Name (thn (he pins s σ H _ I h) fun v s1 q => ?_) hs)
  obtain ⟨hk, y, H1, I1, r1, q1⟩ := q
  refine wpAny_mono (PySem.wpAny_toks_of (n := 1) hk (store_ok (v := y) (u := v) (Q := fun _ s2 => Inv X pins (σ.set i (some y)) H1 s2) I1 hN hi hx r1 (fun _ I2 => I2) hf)) (fun _ s2 q => ?_) fun _ _ z => z.2
  exact h2 pins s2 _ H1 D q.1 q.2 q1
theorem psst_ps {st : Stmt} {rest : List Stmt} {t u : TS} (h1 : PS X st t) (h2 : PSsT X rest u) : PSsT X (st :: rest) (tSeq t u) := psst_cons (PST.of h1) h2
theorem psst_end {st : Stmt} {t : TS} (h : PST X st t) : PSsT X [st] t := CwR.psst_one h
theorem pet_call {CX : CXT} {k : Nat} {f : Addr} {fd : FuncData} {ps : List Str} {ds : List Value} {dvs : List V} {sp : Sp} {E : XK} {x : Str} {p pos : Pos} {e : Expr} {es : List Expr} {t : TA} (F : FnOk X.prog X.w X.K X.mg X.base CX k f fd ps sp) (hr : Room k X.A) (hg : Gl X x) (hm : X.mg x = some (.ref f)) (hk : PySem.W.keepIn X.K (.ref f) = true) (hb : Binds X.K fd ps ds) (hd : Vals dvs ds) (hx : Passes CX X E)
    (ha : PAT X (e :: es) t) (hdb : (x == ("__debug__" : Str)) = false := by decide) (he : starEach (e :: es) X.env = (false, eval e X.env) :: starEach es X.env := by rfl) (hpl : (backTo pos (starEach es X.env)).any (·.1) = false := by rfl) :
    PET X (.Call (.Name x p) (e :: es) [] pos) (tCall sp dvs E t) := by
  intro pins s σ H Q h0 I h
  refine wpAny_Call_Name_kw (ld_glob I hg hm ?_ hdb)
  refine PySem.W.callWith_K (h₀ := X.base) I.ok.mod.kin hk (thn (ha pos pins s σ H _ h0 I h) fun us s1 ⟨vs, H1, I1, r, q⟩ => ⟨I1.kIn, ?_⟩) he hpl
  exact run_fn F hr hb hd hx I1 r q
theorem pet_cmpo {op : CmpOp} {r : R2} {a b : Expr} {ta tb : TE} {pos : Pos} (ho : OpR X (compareOp op) r) (ha : PET X a ta) (hb : PE X b tb) (h1 : behindInMarks op b = false := by first | exact nobehind _ (by decide) (by decide) | rfl) : PET X (.Compare a [op] [b] pos) (tOp r ta tb) := by
  intro pins s σ H Q h0 I h
  refine wpAny_Compare1 (thn (ha pins s σ H _ h0 I h) fun v s1 ⟨x, H1, I1, r1, q1⟩ => ?_) h1
  exact thn (hb.run pins s1 σ H1 _ I1 q1) fun u s2 ⟨y, H2, I2, r2, q2⟩ => ho pins s2 σ H2 x y v u Q I2 r1 r2 q2
end
end My

/-! ### a display of one pair whose key is a tuple; more on tokens -/
namespace My
open PySem PySem.Spec PyProof.Rows L2
section
variable {X : Cx}
def tDisp1 (tk tv : TE) : TE := fun σ H Q => ∀ p H0, H p = none → Same H H0 → H0 p = some (.dT []) →
  tPairs [(tk, tv)] σ H0 fun ps H2 => ∃ b k y, ps = [(.ref b, y)] ∧ H2 b = some (.tup (k.map kV)) ∧ H2 p = some (.dT []) ∧ ∀ H3, But p H2 H3 → H3 p = some (.dT [(k, y)]) → Q (.ref p) H3
theorem pe_disp1 {pos : Pos} {k v : Expr} {tk tv : TE} (hu : X.A.units + 1 < cLine) (hk : PE X k tk) (hv : PE X v tv) : PE X (.Dict [some k] [v] pos) (tDisp1 tk tv) := by
  refine ⟨fun pins s σ H Q I q => ?_⟩
  have hn := I.hok.fresh (Nat.le_refl s.heap.objs.size)
  have I1 := I.laid (a := s.heap.objs.size) (o := .dT []) (h' := s.heap.push { cls := .type "dict", data := .dict #[] }) (t' := s.toks) (fun _ _ q => Heap.get?_push_of_some _ q) (Nat.le_refl _) (dt_empty s.heap I.big)
  have h0 : pairTrees [some k] [v] X.env pos ≠ [] := by simp [pairTrees]
  have hl : (pairTrees [some k] [v] X.env pos).length ≤ 15 := by simp [pairTrees]
  rw [arm_eval_Dict, zip_pairTrees [some k] [v] X.env pos rfl rfl, dictDisplay_pairs _ h0 (by omega)]
  refine wpAny_bind (wpAny_standAt (wpAny_bind (wpAny_subDictH (knd := tupleKind (mixKind X.prog X.w)) (Nat.lt_of_succ_lt hu) hl ?_)))
  refine thn ((pps_cons hk hv pps_nil).run pins _ σ _ _ I1 (q _ _ hn (Same.upd0 hn) upd_same)) fun ws s2 ⟨ps, H2, I2, rel, b, kk, y, ep, hb, hp, q2⟩ => ?_
  subst ep
  cases rel with
  | @cons _ w0 _ ws' r rr =>
    cases rr
    obtain ⟨r1, r2⟩ := r
    obtain ⟨u1, u2⟩ := w0
    have r1 : u1 = Value.ref b := r1
    subst r1
    obtain ⟨z, hd, xs, rx, dd⟩ := dt_of I2.hok hp
    cases rx
    refine ⟨[(kk, b, u2)], ⟨rfl, rfl, key_of I2.hok hb, trivial⟩, dd, fun h' tk dd' hs => wpAny_pure ?_⟩
    rw [storedAllH_nil_of_nodup _ (by simp)] at dd'
    obtain ⟨qo, es, epp, hq, h2, h3, h4, _, h5⟩ := dd'
    refine ⟨.ref s.heap.objs.size, upd H2 s.heap.objs.size (.dT [(kk, y)]), ?_, rfl, q2 _ (But.upd But.refl) upd_same⟩
    refine d_write I2 (by rw [hp]; exact True.intro) hs ⟨qo, hq⟩ ⟨Nat.le_of_ble_eq_true rfl, hd, [(kk, b, u2)], .cons ⟨rfl, ?_, r2⟩ .nil, qo, es, epp, hq, h2, h3, h4, h5⟩
    rw [upd_ne (ne_of hb hp (fun z => nomatch z))]
    exact hb
end
/-! #### tokens -/
section
variable {X : Cx}
def PAG (X : Cx) (es : List Expr) (t : TA) : Prop := ∀ (pos : Pos) (pins : List (Addr × Obj)) (s : Shared) (σ : L2.St) (H : Hp) (Q : List V → Hp → Prop), Inv X pins σ H s → t σ H Q → wpAny (model X.prog X.w) X.A (spliced (backTo pos (starEach es X.env))) (fun us s1 => 1 ≤ s1.toks ∧ AP X pins σ Q us s1) X.xe s
theorem pag_int {i : Int} {j : Nat} {p : Pos} (hs : starEach [.Constant (.int i) j p] X.env = [(false, eval (.Constant (.int i) j p) X.env)] := by rfl) : PAG X [.Constant (.int i) j p] (tCons (tC (.int i)) tNil) := by
  intro pos pins s σ H Q I h
  rw [hs]
  show wpAny _ _ (spliced ((false, eval (.Constant (.int i) j p) X.env) :: [])) _ _ s
  refine Calls.spliced_cons (wpAny_Constant_int (Calls.spliced_nil ⟨?_, [.int i], H, I.tok _, .cons ⟨_, rfl⟩ .nil, h⟩))
  show 1 ≤ s.toks + 1
  omega
theorem pag_cons {e : Expr} {es : List Expr} {te : TE} {t : TA} (ha : PE X e te) (hr : PAG X es t) (hs : starEach (e :: es) X.env = (false, eval e X.env) :: starEach es X.env := by rfl) : PAG X (e :: es) (tCons te t) := by
  intro pos pins s σ H Q I h
  rw [hs]
  show wpAny _ _ (spliced ((false, eval e X.env) :: backTo pos (starEach es X.env))) _ _ s
  refine Calls.spliced_cons (thn (ha.run pins s σ H _ I h) fun u s1 ⟨x, H1, I1, r1, q1⟩ => ?_)
  exact thn (hr pos pins s1 σ H1 _ I1 q1) fun us s2 ⟨tk, xs, H2, I2, r2, q2⟩ => ⟨tk, x :: xs, H2, I2, .cons r1 r2, q2⟩
theorem peg_lstA {es : List Expr} {t : TA} {pos : Pos} (h : PAG X es t) : PEG X (.List es pos) (tLstA t) := by
  intro pins s σ H Q I hq
  refine wpAny_List_spliced (thn (h pos pins s σ H _ I hq) fun us s1 ⟨tk, xs, H1, I1, r, z, q⟩ => ⟨by rw [← r.length]; exact z, ?_⟩)
  have hf : H1 s1.heap.objs.size = none := I1.hok.fresh (Nat.le_refl _)
  refine ⟨tk, .ref s1.heap.objs.size, upd H1 s1.heap.objs.size (.lst xs), I1.laid (t' := s1.toks) (fun b u e => Heap.get?_push_of_some _ e) (Nat.le_refl _) ?_, rfl, q.go _ hf⟩
  exact ⟨z, us, 0, r, Heap.get?_push_size _ rfl⟩
/-- x = e, e wants a token -/
theorem pst_set {i : Nat} {x : Str} {e : Expr} {te : TE} {pos' pos : Pos} (hN : X.N.Nodup) (hi : X.N[i]? = some x) (hx : Loc X.env.scope x) (he : PET X e te)
    (hs : swapsWith e (some (.Name x pos')) pos.line X.env = pure false := by rfl) (hf : X.fn x = true ∨ X.env.scope.names.lookup x = some .local := by first | exact .inl rfl | exact .inr rfl | assumption) :
    PST X (.Assign [.Name x pos'] e pos) (tAsg te (gName i)) := by
  intro pins s σ H D h0 I h
  refine wpAny_Assign_Name (thn (he pins s σ H _ h0 I h) fun v s1 ⟨y, H1, I1, r1, q1⟩ => ?_) hs
  exact store_ok (v := y) (u := v) (Q := fun _ s2 => SP X pins D .next s2) I1 hN hi hx r1 (fun s2 I2 => ⟨_, H1, I2, q1⟩) hf
end
end My

/-! ### boxes by their kind; lines counted -/
namespace My
open PySem PySem.Spec PyProof.Rows L2
section
variable {bc : Kd → Addr} {S : Addr} {K : PySem.W.Frag} {H : Hp} {b : At}
theorem BoxAt.wordsO (h : BoxAt bc S K H b) {t : List Nat} (e : b.own = .words t) : ∃ dx y, H b.x = some (.ins (bc .words) dx [("name", .str (sO b.nm)), ("text", .str (sO t)), ("style", .ref y)]) ∧ t.length ≤ 10000 := by
  cases h with
  | words hx hy ok hn ht => cases e; exact ⟨_, _, hx, ht⟩
  | picture hx hy ok hn ha hd => cases e
  | row hx hy ok hn g0 l0 hb lk hk => cases e
  | pile hx hy ok hn g0 hb lk hk => cases e
  | grid hx hy ok hn g0 l0 hb lk hk hc tc oc nc hr tr or nr hs ts lsp lcs lrs => cases e
theorem BoxAt.pictureO (h : BoxAt bc S K H b) {a d : Int} (e : b.own = .picture a d) : ∃ dx y, H b.x = some (.ins (bc .picture) dx [("name", .str (sO b.nm)), ("across", .int a), ("down", .int d), ("style", .ref y)]) ∧ 1 ≤ a ∧ 1 ≤ d := by
  cases h with
  | words hx hy ok hn ht => cases e
  | picture hx hy ok hn ha hd => cases e; exact ⟨_, _, hx, ha, hd⟩
  | row hx hy ok hn g0 l0 hb lk hk => cases e
  | pile hx hy ok hn g0 hb lk hk => cases e
  | grid hx hy ok hn g0 l0 hb lk hk hc tc oc nc hr tr or nr hs ts lsp lcs lrs => cases e
end
/-- how many lines are begun anew -/
def cntW (w : Nat) : List (List Nat) → Option Nat → Nat
  | [], _ => 0
  | y :: ys, none => cntW w ys (some y.length)
  | y :: ys, some u => if u + 1 + y.length > w then 1 + cntW w ys (some y.length) else cntW w ys (some (u + 1 + y.length))
def usedW (l : List Nat) : Option Nat := if l.isEmpty then none else some l.length
theorem lns_cnt (w : Nat) : ∀ (ws : List (List Nat)) (line : List Nat), (∀ x ∈ ws, 0 < x.length) → (lnsM w ws line).length = 1 + cntW w ws (usedW line)
  | [], line, _ => rfl
  | y :: ys, line, h => by
    have hy := h y List.mem_cons_self
    have ht : ∀ x ∈ ys, 0 < x.length := fun x m => h x (List.mem_cons_of_mem _ m)
    have ey : usedW y = some y.length := by
      unfold usedW
      rw [if_neg]
      intro e
      rw [List.isEmpty_iff] at e
      rw [e] at hy
      cases hy
    show (if line.isEmpty = true then lnsM w ys y else if line.length + 1 + y.length ≤ w then lnsM w ys (line ++ 32 :: y) else line :: lnsM w ys y).length = _
    cases e : line.isEmpty with
    | true =>
      rw [if_pos rfl, lns_cnt w ys y ht, ey]
      unfold usedW
      rw [e]; rfl
    | false =>
      have eu : usedW line = some line.length := by unfold usedW; rw [e]; rfl
      rw [if_neg (by decide), eu]
      have e2 : usedW (line ++ 32 :: y) = some (line.length + 1 + y.length) := by
        unfold usedW
        rw [if_neg (by simp), List.length_append, List.length_cons]
        congr 1; omega
      show _ = 1 + (if line.length + 1 + y.length > w then 1 + cntW w ys (some y.length) else cntW w ys (some (line.length + 1 + y.length)))
      by_cases q : line.length + 1 + y.length ≤ w
      · rw [if_pos q, if_neg (by omega), lns_cnt w ys _ ht, e2]
      · rw [if_neg q, if_pos (by omega), List.length_cons, lns_cnt w ys y ht, ey]; omega
def lineN (w : Nat) (x : List Nat) : Nat := ((cut 10 x).map fun p => 1 + cntW w (wordsL p) none).sum
theorem wrap_cnt (w : Nat) (x : List Nat) : (wrapL w x).length = lineN w x := by
  unfold wrapL lineN
  have : ∀ l : List (List Nat), (l.flatMap (linesL w)).length = (l.map fun p => 1 + cntW w (wordsL p) none).sum := fun l => by
    induction l with
    | nil => rfl
    | cons p l ih =>
      rw [List.flatMap_cons, List.length_append, ih, List.map_cons, List.sum_cons]
      rw [show (linesL w p).length = 1 + cntW w (wordsL p) none from lns_cnt w _ [] fun x m => words_pos m]
  exact this _
end My
namespace My
open PySem PySem.Spec PyProof.Rows L2
/-- feeds become blanks -/
def blankL (x : List Nat) : List Nat := TL.joinL [32] (cut 10 x)
theorem replace_feed (x : List Nat) : Txt.replace (sO x) "\n" " " = sO (blankL x) := by
  have h := StrLaws.replace_one (sO x) " " 10
  have e1 : (⟨#[10]⟩ : Str) = "\n" := by decide +kernel
  have e2 : (" " : Str) = sO [32] := by decide +kernel
  rw [split_cut (by decide), e2, ← TL.join_eq, join_sO] at h
  rw [← e1, e2]
  exact h
theorem blankL_len (x : List Nat) : (blankL x).length ≤ 2 * x.length := by
  unfold blankL
  rw [joinL_len]
  have h1 := cut_sum 10 x
  have h2 := cut_len 10 x
  omega
end My
namespace My
open PySem PySem.Spec PyProof.Rows L2
theorem okL_mk {K : PySem.W.Frag} {H : Hp} {w h lw lh mw mh g s r st : V} (h0 : SzAt H w) (h1 : SzAt H h) (h2 : BdAt lw) (h3 : BdAt lh) (h4 : BdAt mw) (h5 : BdAt mh) (h6 : CtAt g) (h7 : CtAt s) (h8 : RmAt K H r) (h9 : StAt st) : OkL K H [w, h, lw, lh, mw, mh, g, s, r, st] :=
  ⟨rfl, fun i v e => by
    match i, e with
    | 0, e => cases e; exact h0
    | 1, e => cases e; exact h1
    | 2, e => cases e; exact h2
    | 3, e => cases e; exact h3
    | 4, e => cases e; exact h4
    | 5, e => cases e; exact h5
    | 6, e => cases e; exact h6
    | 7, e => cases e; exact h7
    | 8, e => cases e; exact h8
    | 9, e => cases e; exact h9
    | n + 10, e => cases e⟩
theorem bdNon : BdAt .non := .inl rfl
theorem bdN (n : Nat) : BdAt (.int (n : Int)) := .inr ⟨n, rfl⟩
theorem ctN (n : Nat) : CtAt (.int (n : Int)) := ⟨n, rfl⟩
theorem stNon : StAt .non := .inl rfl
end My
namespace My
open PySem PySem.Spec PyProof.Rows L2
theorem styL_inj {a b : List V} (ha : a.length = 10) (hb : b.length = 10) (h : styL a = styL b) : a = b := by
  have e : ∀ l : List V, l.length = 10 → (styL l).map Prod.snd = l := fun l hl => List.map_snd_zip (by show l.length ≤ 10; omega)
  rw [← e a ha, h, e b hb]
end My

/-! ### trees drawn box by box, with what is told of each -/
namespace My
open PySem PySem.Spec PyProof.Rows L2
/-- an item of a list whose items are all so -/
theorem pickL {P : V → Prop} {xs : List V} {n : Int} (h0 : 0 ≤ n) (h1 : n < (xs.length : Int)) (h : ∀ x ∈ xs, P x) : ∃ x, atI xs n = some x ∧ P x := by
  obtain ⟨j, rfl⟩ := Int.eq_ofNat_of_zero_le h0
  have hj : j < xs.length := by omega
  exact ⟨xs[j], atI_nat (List.getElem?_eq_getElem hj), h _ (List.getElem_mem hj)⟩

theorem styIs_eq {K : PySem.W.Frag} {H : Hp} {S U y dy : Addr} {st st' : List V} (g : H y = some (.ins S dy (styL st))) (l : st.length = 10) (l' : st'.length = 10) (si : StyIs K H S U (.ref y) st') : st' = st := by
  rcases si with ⟨e, _⟩ | ⟨y', dy', e, g'⟩
  · cases e
  · cases e
    rw [g] at g'
    have g' := congrArg (fun o : Option HO => match o with | some (.ins _ _ fs) => fs | _ => []) g'
    have g' : styL st = styL st' := g'
    have e1 : ∀ l : List V, l.length = 10 → (styL l).map Prod.snd = l := fun l hl => List.map_snd_zip (by show l.length ≤ 10; omega)
    rw [← e1 st' l', ← g', e1 st l]
/-- spots in order -/
theorem stB_of {c r : Int} {f : Nat → Option (List V)} {n : Nat} (hs : ∀ i, i < n → spotB c r (f i) = true) (ha : ∀ i j, i < j → j < n → apartO (f j) (f i) = true) : stB c r [] ((List.range n).map f) = true := by
  have key : ∀ d m, m + d = n → stB c r ((List.range m).map f) ((List.range' m d).map f) = true := by
    intro d
    induction d with
    | zero => intro m _; rfl
    | succ d ih =>
      intro m e
      rw [List.range'_succ, List.map_cons]
      show ((spotB c r (f m) && ((List.range m).map f).all (apartO (f m))) && stB c r ((List.range m).map f ++ [f m]) _) = true
      rw [Bool.and_eq_true, Bool.and_eq_true]
      refine ⟨⟨hs m (by omega), ?_⟩, ?_⟩
      · rw [List.all_eq_true]
        intro x mx
        obtain ⟨i, hi, rfl⟩ := List.mem_map.mp mx
        exact ha i m (List.mem_range.mp hi) (by omega)
      · have := ih (m + 1) (by omega)
        rw [List.range_succ, List.map_append] at this
        exact this
  have := key n 0 (by omega)
  rw [← List.range_eq_range'] at this
  exact this
/-- spots one a place, M columns -/
def sqO (M : Int) (i : Nat) : Int × Int × Int × Int := ((i : Int) % M, (i : Int) / M, 1, 1)
theorem sq_ok {M : Int} {n : Nat} (h0 : 1 ≤ M) (h1 : M ≤ 3) : stB M (1 + (n : Int) / M) [] (((List.range n).map (sqO M)).map spO) = true := by
  rw [List.map_map]
  refine stB_of (fun i hi => ?_) (fun i j hij hj => ?_)
  · show (strchB (.int ((i : Int) % M)) (.int 1) M && strchB (.int ((i : Int) / M)) (.int 1) (1 + (n : Int) / M)) = true
    rcases (show M = 1 ∨ M = 2 ∨ M = 3 by omega) with rfl | rfl | rfl <;> (simp only [strchB, Bool.and_eq_true, decide_eq_true_eq]; omega)
  · show apartI _ _ _ _ _ _ _ _ = true
    unfold apartI
    rcases (show M = 1 ∨ M = 2 ∨ M = 3 by omega) with rfl | rfl | rfl <;> (simp only [Bool.or_eq_true, decide_eq_true_eq]; dsimp only [sqO]; omega)
/-- the first so many of three tracks -/
theorem take_tks {H : Hp} {a b c : V} {ta tb tc : Tk} {m : Nat} (ha : TkAt H a ta) (hb : TkAt H b tb) (hc : TkAt H c tc) (oa : ta.ok) (ob : tb.ok) (oc : tc.ok) (h1 : 1 ≤ m) (h2 : m ≤ 3) :
    ∃ ts : List Tk, TksAt H ([a, b, c].take m) ts ∧ (∀ t ∈ ts, t.ok) ∧ ts.length = m := by
  refine ⟨[ta, tb, tc].take m, ⟨by rw [List.length_take, List.length_take]; rfl, fun i v t e1 e2 => ?_⟩, fun t mt => ?_, by rw [List.length_take]; show min m 3 = m; omega⟩
  · rw [List.getElem?_take] at e1 e2
    split at e1
    · rename_i hi
      rw [if_pos hi] at e2
      match i, e1, e2 with
      | 0, e1, e2 => cases e1; cases e2; exact ha
      | 1, e1, e2 => cases e1; cases e2; exact hb
      | 2, e1, e2 => cases e1; cases e2; exact hc
      | n + 3, e1, _ => cases e1
    · cases e1
  · have := List.mem_of_mem_take mt
    simp only [List.mem_cons, List.not_mem_nil, or_false] at this
    rcases this with rfl | rfl | rfl
    · exact oa
    · exact ob
    · exact oc
end My
namespace My
open PySem PySem.Spec PyProof.Rows L2
/-! #### all boxes of a tree, each with its holder's name -/
mutual
def At.subs : At → V → List (At × V)
  | .mk x n s o ks, h => (.mk x n s o ks, h) :: subsL ks (.str (sO n))
def subsL : List At → V → List (At × V)
  | [], _ => []
  | k :: ks, h => k.subs h ++ subsL ks h
end
theorem At.subs_eq (t : At) (h : V) : t.subs h = (t, h) :: subsL t.kids (.str (sO t.nm)) := by cases t; rw [At.subs]; rfl
theorem subsL_app : ∀ (a b : List At) (h : V), subsL (a ++ b) h = subsL a h ++ subsL b h
  | [], b, h => by rw [List.nil_append, subsL, List.nil_append]
  | k :: a, b, h => by rw [List.cons_append, subsL, subsL, subsL_app a b h, List.append_assoc]
theorem allL_app : ∀ (a b : List At), allL (a ++ b) = allL a ++ allL b
  | [], b => by rw [List.nil_append, allL, List.nil_append]
  | k :: a, b => by rw [List.cons_append, allL, allL, allL_app a b, List.append_assoc]
mutual
theorem subs_pre : ∀ (t : At) (h : V), (t.subs h).map (fun p => (p.1.x, p.1.nm, p.2)) = t.pre h
  | .mk x n s o ks, h => by rw [At.subs, At.pre, List.map_cons, subsL_pre ks]; rfl
theorem subsL_pre : ∀ (ks : List At) (h : V), (subsL ks h).map (fun p => (p.1.x, p.1.nm, p.2)) = preL ks h
  | [], h => by rw [subsL, preL]; rfl
  | k :: ks, h => by rw [subsL, preL, List.map_append, subs_pre k, subsL_pre ks]
end
mutual
theorem subs_all : ∀ (t : At) (h : V), (t.subs h).map Prod.fst = t.all
  | .mk x n s o ks, h => by rw [At.subs, At.all, List.map_cons, subsL_all ks]
theorem subsL_all : ∀ (ks : List At) (h : V), (subsL ks h).map Prod.fst = allL ks
  | [], h => by rw [subsL, allL]; rfl
  | k :: ks, h => by rw [subsL, allL, List.map_append, subs_all k, subsL_all ks]
end
mutual
theorem depth_all : ∀ t : At, t.depth ≤ t.all.length
  | .mk x n s o ks => by
    have := depthL_all ks
    rw [At.depth, At.all, List.length_cons]; omega
theorem depthL_all : ∀ ks : List At, depthL ks ≤ (allL ks).length
  | [] => by rw [depthL, allL]; exact Nat.le_refl _
  | k :: ks => by
    have h1 := depth_all k
    have h2 := depthL_all ks
    rw [depthL, allL, List.length_append]; omega
end
theorem pre_nms (t : At) (h : V) : (t.pre h).map (·.2.1) = t.all.map At.nm := by
  rw [← subs_pre, ← subs_all t h, List.map_map, List.map_map]; rfl
theorem allL_perm : ∀ ks : List At, (allL ks).Perm (ks ++ ks.flatMap fun k => allL k.kids)
  | [] => by rw [allL]; exact .nil
  | k :: ks => by
    rw [allL, k.all_eq, List.cons_append, List.cons_append, List.flatMap_cons]
    refine .cons _ ?_
    have h := allL_perm ks
    refine (List.Perm.append_left _ h).trans ?_
    rw [← List.append_assoc, ← List.append_assoc]
    exact List.Perm.append_right _ List.perm_append_comm
theorem len_allL (ks : List At) : ks.length ≤ (allL ks).length := by
  have := (allL_perm ks).length_eq
  rw [List.length_append] at this
  omega
/-! #### what is told of a box -/
def kdW : Kd → String
  | .words => "words"
  | .picture => "picture"
  | .row => "row"
  | .pile => "pile"
  | .grid => "grid"
/-- how it stands its boxes, whether it turns, where it says so -/
def OwnIs : Own → String → Bool → Prop
  | .row tn _ _ _ sd, ow, t => tn = t ∧ sd = ow
  | .pile _ _ sd, ow, _ => sd = ow
  | .grid _ _ _ _ _ sd, ow, _ => sd = ow
  | _, _, _ => True
def NoB (xs : List V) : Prop := ∀ b, xs[2]? ≠ some (V.bl b)
theorem noB_refs (ks : List At) : NoB (refs ks) := fun b h => by
  unfold refs at h
  rw [List.getElem?_map] at h
  cases e : ks[2]? with
  | none => rw [e] at h; cases h
  | some k => rw [e] at h; cases h
theorem noB_strs {α : Type} (f : α → List Nat) (ls : List α) : NoB (ls.map fun l => V.str (sO (f l))) := fun b h => by
  rw [List.getElem?_map] at h
  cases e : ls[2]? with
  | none => rw [e] at h; cases h
  | some k => rw [e] at h; cases h
theorem noB_st {K : PySem.W.Frag} {H : Hp} {st : List V} (h : OkL K H st) : NoB st := fun b e => by
  rcases (show BdAt (.bl b) from h.2 2 _ e) with q | ⟨n, q⟩ <;> cases q
theorem noB_ne {H : Hp} {a f : Addr} {xs r : List V} {x0 x1 : V} {t : Bool} (ha : H a = some (.lst xs)) (n : NoB xs) (hf : H f = some (.lst (x0 :: x1 :: .bl t :: r))) : a ≠ f := by
  rintro rfl
  rw [ha] at hf
  cases hf
  exact n t rfl
structure FactAt (H0 H : Hp) (kvs : List (Key × V)) (b : At) (hv : V) (f l q : Addr) (ow : String) (tn : Bool) : Prop where
  v : valV kvs (keyS b.nm) = some (.ref f)
  z : H0 f = none
  f : H f = some (.lst [sX (kdW b.own.kd), sX ow, .bl tn, .ref l, .ref q, hv])
  l : H l = some (.lst b.st)
  n : NoB b.st
  q : H q = some (.lst (b.kids.map fun k => V.str (sO k.nm)))
  o : OwnIs b.own ow tn
def Fact (H0 H : Hp) (kvs : List (Key × V)) (b : At) (hv : V) : Prop := ∃ f l q ow tn, FactAt H0 H kvs b hv f l q ow tn
def InjK (kvs : List (Key × V)) : Prop := ∀ n m a, valV kvs (keyS n) = some (.ref a) → valV kvs (keyS m) = some (.ref a) → n = m
section
variable {H0 H H' : Hp} {kvs : List (Key × V)} {b : At} {hv : V} {f l q : Addr} {ow : String} {tn : Bool}
theorem Fact.same (h : Fact H0 H kvs b hv) (s : Same H H') : Fact H0 H' kvs b hv := let ⟨f, l, q, ow, tn, a⟩ := h; ⟨f, l, q, ow, tn, a.v, a.z, s _ _ a.f, s _ _ a.l, a.n, s _ _ a.q, a.o⟩
/-- a dict is changed: what it tells of the box stays -/
theorem Fact.put {d : Addr} {us kvs' : List (Key × V)} (h : Fact H0 H kvs b hv) (hd : H d = some (.dK us)) (s : But d H H') (e : valV kvs' (keyS b.nm) = valV kvs (keyS b.nm)) : Fact H0 H' kvs' b hv := by
  obtain ⟨f, l, q, ow, tn, a⟩ := h
  have n : ∀ {x : Addr} {xs : List V}, H x = some (.lst xs) → x ≠ d := fun hx z => by rw [z, hd] at hx; cases hx
  exact ⟨f, l, q, ow, tn, e.trans a.v, a.z, s.app (n a.f) a.f, s.app (n a.l) a.l, a.n, s.app (n a.q) a.q, a.o⟩
/-- what is told of another box is changed -/
theorem Fact.but {kn : List Nat} {g : Addr} {x0 x1 : V} {t : Bool} {r : List V} (h : Fact H0 H kvs b hv) (inj : InjK kvs) (hg : valV kvs (keyS kn) = some (.ref g)) (gg : H g = some (.lst (x0 :: x1 :: .bl t :: r))) (s : But g H H') (ne : b.nm ≠ kn) : Fact H0 H' kvs b hv := by
  obtain ⟨f, l, q, ow, tn, a⟩ := h
  have nf : f ≠ g := fun z => ne (inj _ _ g (z ▸ a.v) hg)
  exact ⟨f, l, q, ow, tn, a.v, a.z, s.app nf a.f, s.app (noB_ne a.l a.n gg) a.l, a.n, s.app (noB_ne a.q (noB_strs _ _) gg) a.q, a.o⟩
theorem FactAt.set {w : V} (a : FactAt H0 H kvs b hv f l q ow tn) (s : But f H H') (g : H' f = some (.lst [sX (kdW b.own.kd), sX ow, .bl tn, .ref l, .ref q, w])) : Fact H0 H' kvs b w :=
  ⟨f, l, q, ow, tn, a.v, a.z, g, s.app (noB_ne a.l a.n a.f) a.l, a.n, s.app (noB_ne a.q (noB_strs _ _) a.f) a.q, a.o⟩
end
end My
namespace My
open PySem PySem.Spec PyProof.Rows L2
theorem SzIn.tt {names : List (List Nat)} {H : Hp} {p : Bool} {v : V} (h : SzIn names H p v) : SzIn names H true v := by
  rcases h with h | h | ⟨_, a, n, e1, g⟩ | h
  · exact .inl h
  · exact .inr (.inl h)
  · exact .inr (.inr (.inl ⟨rfl, a, n, e1, g⟩))
  · exact .inr (.inr (.inr h))
theorem SzIn.nms {names names' : List (List Nat)} {H : Hp} {p : Bool} {v : V} (h : SzIn names H p v) (q : ∀ l ∈ names, l ∈ names') : SzIn names' H p v := by
  rcases h with h | h | h | ⟨a, l, sd, m, e1, g, z⟩
  · exact .inl h
  · exact .inr (.inl h)
  · exact .inr (.inr (.inl h))
  · exact .inr (.inr (.inr ⟨a, l, sd, m, e1, g, q l z⟩))
theorem mem_subsL {q : At × V} {h : V} : ∀ {ks : List At}, q ∈ subsL ks h → ∃ k ∈ ks, q ∈ k.subs h
  | [], m => by rw [subsL] at m; cases m
  | k :: ks, m => by
    rw [subsL] at m
    rcases List.mem_append.mp m with m | m
    · exact ⟨k, List.mem_cons_self, m⟩
    · obtain ⟨j, mj, z⟩ := mem_subsL m
      exact ⟨j, List.mem_cons_of_mem _ mj, z⟩
theorem subs_mem {q : At × V} {h : V} {k : At} (z : q ∈ k.subs h) : ∀ {ks : List At}, k ∈ ks → q ∈ subsL ks h
  | j :: ks, m => by
    rw [subsL]
    rcases List.mem_cons.mp m with rfl | m
    · exact List.mem_append_left _ z
    · exact List.mem_append_right _ (subs_mem z m)
theorem subs_in {q : At × V} {ks : List At} {h : V} (m : q ∈ subsL ks h) : q.1 ∈ allL ks := by
  rw [← subsL_all ks h]; exact List.mem_map_of_mem m
theorem kid_in {k : At} {ks : List At} (m : k ∈ ks) : k ∈ allL ks := (allL_perm ks).mem_iff.mpr (List.mem_append_left _ m)
theorem split_ok {fr ks : List At} (nd : ((allL (fr ++ ks)).map At.nm).Nodup) : (ks.map At.nm).Nodup ∧ (∀ b ∈ allL fr, ∀ k ∈ ks, b.nm ≠ k.nm) ∧ ∀ k' ∈ ks, ∀ b ∈ allL k'.kids, ∀ k ∈ ks, b.nm ≠ k.nm := by
  rw [allL_app, List.map_append, List.nodup_append] at nd
  obtain ⟨_, n2, dj⟩ := nd
  have n3 := ((allL_perm ks).map At.nm).nodup_iff.mp n2
  rw [List.map_append, List.nodup_append] at n3
  refine ⟨n3.1, fun b mb k mk => dj _ (List.mem_map_of_mem mb) _ (List.mem_map_of_mem (kid_in mk)), fun k' mk' b mb k mk => ?_⟩
  exact (n3.2.2 _ (List.mem_map_of_mem mk) _ (List.mem_map_of_mem (List.mem_flatMap.mpr ⟨k', mk', mb⟩))).symm
theorem ite_step {i j : Nat} {a b : V} (e : i ≠ j) : (if i < j + 1 then a else b) = if i < j then a else b := by
  by_cases h : i < j
  · rw [if_pos h, if_pos (by omega)]
  · rw [if_neg h, if_neg (by omega)]
end My

/-! ### a comprehension whose first walk wants a token (a replace within it), and a sum whose left part gives one -/
namespace My
open PySem PySem.Spec PyProof.Rows L2
section
variable {X : Cx}
/-- a + b: the left one gives a token out, the right one wants it -/
theorem pe_opG {op : Operator} {r : R2} {a b : Expr} {ta tb : TE} {pos : Pos} (ho : OpR X (binaryOp op) r) (ha : PEG X a ta) (hb : PET X b tb) : PE X (.BinOp a op b pos) (tOp r ta tb) := by
  refine ⟨fun pins s σ H Q I q => wpAny_BinOp (thn (ha pins s σ H _ I q) ?_)⟩
  rintro v1 s1 ⟨tk, x1, G1, J1, r1, q1⟩
  exact thn (hb pins s1 σ G1 _ tk J1 q1) fun v2 s2 ⟨x2, G2, J2, r2, q2⟩ => ho pins s2 σ G2 x1 x2 v1 v2 Q J2 r1 r2 q2
end
section
variable {X : Cx}
theorem pit_listK {K : PySem.W.Frag} (hK : X.K = K) {tg l : Expr} {tl : TE} (hl : PET X l tl) : PIT X tg l (iList K tl) := by
  subst hK
  exact pit_list hl
end
/-- the block's loop ahead of a turn: its context B, its slots ω, what is walked (fp, tn), the caller's measure W -/
def LtAt (B : Cx) (ω : L2.St) (fp : List Addr) (tn : Nat → Heap → Prop) (W : Nat → Nat → Hp → Prop) (n : Nat) (s : Shared) : Prop :=
  ∃ (j : Nat) (G : Hp), Inv B [] ω G s ∧ tn j s.heap ∧ W j n G ∧ ∀ b ∈ fp, G b = none
/-- in the block, what is walked is nobody's -/
theorem lt_walk {X : Cx} {t : Shared} {G0 G : Hp} {scope : Scope} {ce : Env} {fp : List Addr} {ω : L2.St} {s : Shared} (I : Inv (X.blk t G0 scope ce fp) [] ω G s) (hn : ∀ b ∈ fp, G b = none) : ∀ b ∈ fp, FpOk (X.blk t G0 scope ce fp) [] G b := by
  intro b mb
  have z := I.ok.exf b mb
  refine ⟨hn b mb, z.1, I.ok.exfs b mb, .inl mb, fun y c e => z.2 y c e, ?_⟩
  rintro p (mp : p ∈ ([] : List (Addr × Obj)) ++ [])
  cases mp
section
variable {X : Cx} {elt tg iter : Expr} {ifs : List Expr} {scope : Scope} {own : List (Str × Nat)} {pos : Pos} {g : TG} {tt : TT} {te : TE}
/-- one turn that yields -/
theorem lt_turn {t : Shared} {G0 : Hp} {ce : Env} {fp : List Addr} {tn : Nat → Heap → Prop} {W : Nat → Nat → Hp → Prop} {J : L2.It} {it D : Addr} {σ : L2.St} {j n : Nat} {G : Hp} {s : Shared} {Nx : Hp → Prop}
    (calm : X.calm = true) (T : Turn X.prog X.w X.K tg J fp it tn)
    (gB : PG (X.blk t G0 scope ce fp) tg g) (tB : PTs (X.blk t G0 scope ce fp) ifs tt) (eB : PE (X.blk t G0 scope ce fp) elt te)
    (I : Inv (X.blk t G0 scope ce fp) [] (wipe σ (own.map (·.2))) G s) (at_ : tn j s.heap) (free : ∀ b ∈ fp, G b = none) (go : J.go j G)
    (down : ∀ G', Nx G' → ∃ m, m < n ∧ W (j + 1) m G')
    (step : ∀ x G', J.yld j G x G' → g x (wipe σ (own.map (·.2))) G' fun σ2 G2 => wipe σ2 (own.map (·.2)) = wipe σ (own.map (·.2)) ∧ tt σ2 G2 fun b G3 =>
      if b = true then te σ2 G3 fun y G4 => ∃ acc, G4 D = some (.lst acc) ∧ acc.length < sizeLine ∧ Nx (upd G4 D (.lst (acc ++ [y]))) else Nx G3)
    {R : Option Value → Shared → Prop} {E : Value → Shared → Prop}
    (hR : ∀ u s1, wpAny (model X.prog X.w) X.A (letOwnedTupleGo tg (.ref it) u) (fun _ s2 => wpAny (model X.prog X.w) X.A (assign tg ce u) (fun _ s3 =>
        wpAny (model X.prog X.w) X.A (forIn ifs true fun c r => if r = true then do let ok ← isTrue c ce (eval c ce); pure (ForInStep.yield ok) else pure (ForInStep.yield r)) (fun ok s4 =>
          if ok = true then wpAny (model X.prog X.w) X.A (eval elt ce) (fun z s5 => wpAny (model X.prog X.w) X.A (call (.builtin "list.append") [.ref D, z]) (fun _ s6 => ∃ m, m < n ∧ LtAt (X.blk t G0 scope ce fp) (wipe σ (own.map (·.2))) fp tn W m s6) (fun _ _ => False) s5) (fun _ _ => False) s4
          else ∃ m, m < n ∧ LtAt (X.blk t G0 scope ce fp) (wipe σ (own.map (·.2))) fp tn W m s4) (fun _ _ => False) s3) (fun _ _ => False) s2) (fun _ _ => False) s1 → R (some u) s1) :
    wpAny (model X.prog X.w) X.A (pyNext (.ref it)) R E s := by
  refine thnF (T.item (X.blk t G0 scope ce fp) rfl rfl rfl calm j [] s _ G _ I (lt_walk I free) at_ go) ?_
  rintro _ s1 ⟨u, rfl, k⟩
  refine hR u s1 (thnF k ?_)
  rintro _ s2 ⟨x, G2, I2, ru, hy, at2, free2⟩
  have P2 := I2.pinned (lt_walk I2 free2) (T.obj _ _ at2)
  -- what stands at a turn's end
  have back : ∀ {σ3 : L2.St} {s3 : Shared} {G3 : Hp}, Inv (X.blk t G0 scope ce fp) ([] ++ pinsAt fp s2.heap) σ3 G3 s3 → wipe σ3 (own.map (·.2)) = wipe σ (own.map (·.2)) → Nx G3 → ∃ m, m < n ∧ LtAt (X.blk t G0 scope ce fp) (wipe σ (own.map (·.2))) fp tn W m s3 := by
    intro σ3 s3 G3 I3 ew nx
    obtain ⟨m, lm, wm⟩ := down G3 nx
    have held : ∀ b, b ∈ fp → ∀ o, s2.heap.get? b = some o → s3.heap.get? b = some o ∧ G3 b = none := by
      intro b mb o e
      have z := I3.pin (b, o) (List.mem_append_right _ (List.mem_append_right _ (mem_pinsAt mb e)))
      exact ⟨z.1, z.2.1⟩
    refine ⟨m, lm, j + 1, G3, Inv.weak (Inv.unpinned (pins := []) I3) ?_ ?_, T.keep _ _ _ at2 fun b mb o e => (held b mb o e).1, wm, fun b mb => ?_⟩
    · rw [← ew, wipe_length]
    · intro i v e
      rw [← ew] at e
      exact (wipe_some e).1
    · obtain ⟨o, e, _⟩ := T.obj _ _ at2 b mb
      exact (held b mb o e).2
  refine thnF (gB.run _ s2 _ G2 x u _ P2 ru (step x G2 hy)) ?_
  rintro _ s3 ⟨σ3, G3, I3, ew, q3⟩
  refine thnF (tB.run _ s3 σ3 G3 _ I3 q3) ?_
  rintro b s4 ⟨G4, I4, q4⟩
  cases b with
  | false => exact back I4 ew q4
  | true =>
    refine thnF (eB.run _ s4 σ3 G4 _ I4 q4) ?_
    rintro z s5 ⟨y, G5, I5, ry, acc, hD, la, nx⟩
    exact app_ok (X := X.blk t G0 scope ce fp) I5 hD la ry fun s6 I6 => back I6 ew nx
/-- [elt for tg in iter ..], the walk wants a token -/
theorem pet_lc {wi : TI} (calm : X.calm = true) (nd : X.N.Nodup) (hi : PIT X tg iter wi) (ok : BlkOk X.N X.env.scope scope own)
    (hg : ∀ (s : Shared) (H : Hp) (C : Addr) (cl : List (Str × Addr)) (fp : List Addr), PG (X.blk s H scope (compEnvC scope cl C X.env) fp) tg g)
    (ht : ∀ (s : Shared) (H : Hp) (C : Addr) (cl : List (Str × Addr)) (fp : List Addr), PTs (X.blk s H scope (compEnvC scope cl C X.env) fp) ifs tt)
    (he : ∀ (s : Shared) (H : Hp) (C : Addr) (cl : List (Str × Addr)) (fp : List Addr), PE (X.blk s H scope (compEnvC scope cl C X.env) fp) elt te)
    (fold : ∀ x, foldedSetIterable iter X.env x = pure x := by intro _; rfl) :
    PET X (.ListComp elt [⟨tg, iter, ifs, 0⟩] scope pos) (tLc wi g tt te (own.map (·.2))) := by
  intro pins s σ H Q tk I h
  rw [eval_ListComp]
  have clo : ∀ y ∈ scope.names, y.2 = .free → ∃ c, X.env.cells.lookup y.1 = some c := fun y my e => (ok.free y my e).elim (fun k => I.ok.has _ (.inl k)) fun k => I.ok.has _ (.inr k)
  refine wpAny_comprehension_free (use := none) rfl fold (closure_ok clo) ok.kind (fun y my e => by rw [ok.uniq y my, e]) (thn (hi pins s σ H _ tk I h) fun _ s1 k1 => thn k1 ?_)
  rintro _ s2 ⟨it, fp, tn, J, H2, rfl, I2, T, at2, f2, q⟩
  refine wpAny_newObj_type (newEnv_comp ?_) (Nat.zero_le _)
  have free2 : H2 s2.heap.objs.size = none := I2.hok.fresh (Nat.le_refl _)
  obtain ⟨W, ⟨n0, w0⟩, turn⟩ := q s2.heap.objs.size free2
  -- the new list stands
  have old : ∀ b o, s2.heap.get? b = some o → (s2.heap.push { cls := .type "list", data := .seq ([] : List Value).toArray }).get? b = some o := fun b o e => Heap.get?_push_of_some _ e
  have I3 : Inv X pins σ (upd H2 s2.heap.objs.size (.lst [])) { s2 with heap := s2.heap.push { cls := .type "list", data := .seq ([] : List Value).toArray } } :=
    I2.laid (t' := s2.toks) old (Nat.le_refl _) ⟨Nat.zero_le _, [], 0, .nil, Heap.get?_push_size _ rfl⟩
  have old3 : ∀ b o, s2.heap.get? b = some o → ({ s2 with heap := s2.heap.push { cls := .type "list", data := .seq ([] : List Value).toArray } } : Shared).heap.get? b = some o := old
  have lt3 : ∀ b o, s2.heap.get? b = some o → b < ({ s2 with heap := s2.heap.push { cls := .type "list", data := .seq ([] : List Value).toArray } } : Shared).heap.objs.size := fun b o e => Heap.lt_size (old b o e)
  generalize hD : s2.heap.objs.size = D at free2 w0 turn I3 ⊢
  generalize ({ s2 with heap := s2.heap.push { cls := .type "list", data := .seq ([] : List Value).toArray } } : Shared) = s3 at I3 old3 lt3 ⊢
  have f3 : ∀ b ∈ fp, FpOk X pins (upd H2 D (.lst [])) b ∧ b < s3.heap.objs.size := by
    intro b mb
    obtain ⟨o, e, _⟩ := T.obj _ _ at2 b mb
    have lb : b < D := by rw [← hD]; exact Heap.lt_size e
    exact ⟨⟨(upd_ne (Nat.ne_of_lt lb)).trans (f2 b mb).1, (f2 b mb).2⟩, lt3 b o e⟩
  have at3 : tn 0 s3.heap := T.keep _ _ _ at2 fun b _ o e => old3 b o e
  generalize upd H2 D (.lst []) = G0 at w0 I3 f3
  have I4 := block_start I3 ok nd f3
  have gB := hg s3 G0 s3.heap.objs.size (cellsFrom (s3.heap.objs.size + 1) scope.names (cloFrom X.env.cells scope.names [])) fp
  have tB := ht s3 G0 s3.heap.objs.size (cellsFrom (s3.heap.objs.size + 1) scope.names (cloFrom X.env.cells scope.names [])) fp
  have eB := he s3 G0 s3.heap.objs.size (cellsFrom (s3.heap.objs.size + 1) scope.names (cloFrom X.env.cells scope.names [])) fp
  have cL : (compEnvC scope (cellsFrom (s3.heap.objs.size + 1) scope.names (cloFrom X.env.cells scope.names [])) s3.heap.objs.size X.env).locals = s3.heap.objs.size := rfl
  show codeAny _ _ (.compStart _ 0 (.ref it) (.ref D) (compEnvC scope (cellsFrom (s3.heap.objs.size + 1) scope.names (cloFrom X.env.cells scope.names [])) s3.heap.objs.size X.env)) (compPost (model X.prog X.w) X.A X.xe none _ (.ref D) s3.heap.objs.size) { s3 with heap := pushCells (s3.heap.push { cls := .type "dict", data := .dict #[] }) scope.names }
  have at4 : tn 0 (pushCells (s3.heap.push { cls := .type "dict", data := .dict #[] }) scope.names) := T.keep _ _ _ at3 fun b _ o e => pushCells_keeps _ _ _ _ (Heap.get?_push_of_some _ e)
  generalize compEnvC scope (cellsFrom (s3.heap.objs.size + 1) scope.names (cloFrom X.env.cells scope.names [])) s3.heap.objs.size X.env = ce at I4 gB tB eB cL ⊢
  generalize hs4 : ({ s3 with heap := pushCells (s3.heap.push { cls := .type "dict", data := .dict #[] }) scope.names } : Shared) = s4 at I4 ⊢
  have at4 : tn 0 s4.heap := by rw [← hs4]; exact at4
  refine codeAny_compStart_list ?_ (T.self X.A 0 _ _ _ at4 ?_) <;>
  · refine compLoop_any (LtAt (X.blk s3 G0 scope ce fp) (wipe σ (own.map (·.2))) fp tn W) ?_ n0 ⟨0, G0, I4, at4, w0, fun b mb => (f3 b mb).1.1⟩
    rintro n s5 ⟨j, G, I5, at5, w5, free5⟩
    rcases turn j n G w5 with ⟨stop, fin⟩ | ⟨go, Nx, down, step⟩
    · refine thnF (T.done (X.blk s3 G0 scope ce fp) rfl rfl rfl calm j [] s5 _ G _ I5 (lt_walk I5 free5) at5 stop) ?_
      rintro _ s6 ⟨rfl, I6⟩
      have I7 : Inv X pins σ G s6 := I3.call' (ch := fp) I6.os I6.base I6.hok I6.bare fun b mb => by
        obtain ⟨⟨_, z1, z2, z3, z4, z5⟩, _⟩ := f3 b mb
        exact ⟨z3, z1, z4, z5⟩
      have nC : G s3.heap.objs.size = none := by rw [← cL]; exact I6.free
      obtain ⟨m, hn, _⟩ := I6.loc
      have hn : s6.heap.Ns s3.heap.objs.size m := by rw [← cL]; exact hn
      obtain ⟨z0, z1, z2, z3, z4, z5⟩ := I3.fpOk (Nat.le_refl _) nC
      exact ⟨m, hn, fun h7 sb => ⟨.ref D, G, I7.turned (t' := s6.toks) (fun b o hb e => (sb.2 b hb).trans e) z0 z1 z3 z4 z5, rfl, fin⟩⟩
    · exact lt_turn calm T gB tB eB I5 at5 free5 go down step fun u s6 k => wpAny_mono k (fun _ s7 k => wpAny_mono k (fun _ s8 k => wpAny_mono k (fun ok s9 k => by
        cases ok with
        | false => exact k
        | true => exact wpAny_mono k (fun z s10 k => wpAny_mono k (fun _ _ k => k) fun _ _ f => f.elim) fun _ _ f => f.elim) fun _ _ f => f.elim) fun _ _ f => f.elim) fun _ _ f => f.elim
end
/-! words of a text whose line feeds have become blanks -/
theorem words_blank (a b : List Nat) : wordsL (a ++ 32 :: b) = wordsL a ++ wordsL b := by
  unfold wordsL
  rw [cut_append, List.filter_append]
theorem words_join : ∀ ps : List (List Nat), wordsL (TL.joinL [32] ps) = ps.flatMap wordsL
  | [] => by rfl
  | [p] => by
    rw [List.flatMap_cons, List.flatMap_nil, List.append_nil]
    rfl
  | p :: q :: r => by
    rw [List.flatMap_cons, ← words_join (q :: r), ← words_blank]
    rfl
section
variable {K : PySem.W.Frag} {a : Addr} {g : TG} {tt : TT} {te : TE} {vs : List Nat} {σ : L2.St} {H1 : Hp} {D : Addr} {Qd : Hp → Prop} {α : Type}
/-- a new list of texts for each item of a list -/
theorem lcLw (ρ0 : α → V) (W : α → List (List Nat)) {ys : List α} (hD : H1 D = none) (hx : SqL K H1 a (ys.map ρ0)) (hn : ys.length ≤ 100000)
    (hs : ∀ (i : Nat) (y : α) (H : Hp) (Kt : V → Hp → Prop) (Kf : Hp → Prop), ys[i]? = some y → Same H1 H → (∀ b H4, Same H H4 → H b = none → H4 b = some (.lst ((W y).map fun p => V.str (sO p))) → Kt (.ref b) H4) → LcT g tt te vs σ (ρ0 y) H Kt Kf)
    (hd : ∀ (H : Hp), Same H1 H → PtsAt H D (ys.map W) → Qd H) : LcG (Itl K a) g tt te vs σ H1 D Qd :=
  lcL (fun i acc H' => Same H1 H' ∧ acc.length = i ∧ ∀ (j : Nat) (b : V) (y : α), acc[j]? = some b → ys[j]? = some y → ∃ c, b = .ref c ∧ c ≠ D ∧ H' c = some (.lst ((W y).map fun p => V.str (sO p))))
    (fun H' s' _ => ⟨s', rfl, fun j b y h => by cases h⟩) hD (fun i acc H' p => Same.seq p.1 hx) (fun i x acc H' Kt Kf hxi p e kk => by
      obtain ⟨y, hy, rfl⟩ := of_map hxi
      have hi := (List.getElem?_eq_some_iff.mp hy).1
      obtain ⟨dp, hul, hub⟩ := p
      refine hs i y H' Kt Kf hy dp fun b H4 s4 nb gb => kk.yes _ _ (s4 _ _ e) (Nat.lt_of_lt_of_le (show _ < 100001 by omega) (by decide)) fun H5 b5 g5 => ⟨Same.mut' (dp.trans s4) b5 hD, by rw [List.length_append, hul]; rfl, fun j c z hc hz => ?_⟩
      by_cases hj : j < acc.length
      · rw [List.getElem?_append_left hj] at hc
        obtain ⟨q, eq, nq, gq⟩ := hub j c z hc hz
        exact ⟨q, eq, nq, b5.app nq (s4 _ _ gq)⟩
      · have hj2 : j = i := by
          have := (List.getElem?_eq_some_iff.mp hc).1
          rw [List.length_append] at this
          simp at this; omega
        subst hj2
        rw [← hul, List.getElem?_concat_length] at hc
        cases hc
        rw [hy] at hz
        cases hz
        have nbD : b ≠ D := by
          rintro rfl
          rw [nb] at e
          cases e
        exact ⟨b, rfl, nbD, b5.app nbD gb⟩)
    (fun acc H' p e => by
      obtain ⟨dp, hul, hub⟩ := p
      rw [List.length_map] at hul
      refine hd H' dp ⟨acc, e, by rw [List.length_map]; exact hul, fun i v w a1 a2 => ?_⟩
      rw [List.getElem?_map] at a2
      cases hy : ys[i]? with
      | none => rw [hy] at a2; cases a2
      | some y =>
      rw [hy] at a2
      cases a2
      obtain ⟨c, ec, _, gc⟩ := hub i v y a1 hy
      exact ⟨c, ec, gc⟩)
end
theorem wish_max {x : List Nat} {m : Int} (h : m ∈ ((cut 10 x).map wordsL).map fun ws => (((TL.joinL [32] ws).length : Nat) : Int)) (g : ∀ y ∈ ((cut 10 x).map wordsL).map fun ws => (((TL.joinL [32] ws).length : Nat) : Int), y ≤ m) : m = (wishL x : Nat) := by
  have e : (((cut 10 x).map wordsL).map fun ws => (((TL.joinL [32] ws).length : Nat) : Int)) = ((cut 10 x).map fun p => (joined p).length).map Int.ofNat := by
    rw [List.map_map, List.map_map]
    rfl
  rw [e] at h g
  exact maxN_of h g
theorem long_max {x : List Nat} {m : Int} (h : m ∈ (0 : Int) :: (wordsL (blankL x)).map fun w => ((w.length : Nat) : Int)) (g : ∀ y ∈ (0 : Int) :: (wordsL (blankL x)).map fun w => ((w.length : Nat) : Int), y ≤ m) : m = (longL x : Nat) := by
  have e : ((0 : Int) :: (wordsL (blankL x)).map fun w => ((w.length : Nat) : Int)) = (0 :: ((cut 10 x).flatMap wordsL).map List.length).map Int.ofNat := by
    unfold blankL
    rw [words_join, List.map_cons, List.map_map]
    rfl
  rw [e] at h g
  have := maxN_of h g
  rw [this]
  show ((max 0 (longL x) : Nat) : Int) = _
  rw [Nat.zero_max]
def heldO (n : Int) (l m : Option Int) : Int := match l with | some l => max (match m with | some m => min n m | none => n) l | none => (match m with | some m => min n m | none => n)
theorem heldO_eq {n : Int} {l m : Option Int} (hn : 0 ≤ n) (hm : ∀ k, m = some k → 0 ≤ k) : heldO n l m = heldM n (l.getD 0) m := by
  cases l with
  | some l => cases m <;> rfl
  | none =>
    cases m with
    | none => show n = max n 0; omega
    | some k =>
      have := hm k rfl
      show min n k = max (min n k) 0
      omega
end My

/-! ### zip of a tuple and a list (or of two tuples) -/
namespace My
open PySem PySem.Spec PyProof.Rows L2 RZ
/-- the tuple at a, the list at b as they stand at each turn, the items in new pairs -/
def ItzM (K : PySem.W.Frag) (a b : Addr) : L2.It :=
  ⟨fun i H => ∃ (xs ys : List V) (x y : V), SqT K H a xs ∧ SqL K H b ys ∧ xs[i]? = some x ∧ ys[i]? = some y,
    fun i H v H' => ∃ T x y, v = .ref T ∧ H T = none ∧ H' = upd H T (.tup [x, y]) ∧ (∀ xs, SqT K H a xs → xs[i]? = some x) ∧ (∀ ys, SqL K H b ys → ys[i]? = some y),
    fun i H => ∃ xs ys : List V, SqT K H a xs ∧ SqL K H b ys ∧ xs.length = i ∧ ys.length = i⟩
theorem turn_zipM {P : Program} {w : World} {K : PySem.W.Frag} {elts : List Expr} {kk : Nat} {tpos : Pos} {a b z TI TO i1 i2 : Addr} (S : ZipSep2 z TI TO i1 i2 [i1, a] [i2, b]) (na : a ≠ i1) (nb : b ≠ i2) :
    Turn P w K (.Tuple elts kk tpos) (ItzM K a b) [z, TI, TO, i1, i2] z (fun i h => IsZip h z TI TO .none ∧ IsTupOf2 h TI (.ref i1) (.ref i2) ∧ (∃ x y, IsTupOf2 h TO x y) ∧ h.IsTupleIter i1 a i ∧ h.IsListIter i2 b i) where
  mem := by simp
  obj := fun i h st d hd => by
    obtain ⟨hz, hTI, ⟨x, y, hTO⟩, ⟨o1, e1, _, d1⟩, ⟨o2, e2, _, d2⟩⟩ := st
    have e' : d = z ∨ d = TI ∨ d = TO ∨ d = i1 ∨ d = i2 := by simpa using hd
    rcases e' with q | q | q | q | q
    · rw [q]; exact ⟨_, hz, fun v q => nomatch q⟩
    · rw [q]; exact ⟨_, hTI, fun v q => nomatch q⟩
    · rw [q]; exact ⟨_, hTO, fun v q => nomatch q⟩
    · rw [q]; exact ⟨o1, e1, fun v q => by rw [d1] at q; cases q⟩
    · rw [q]; exact ⟨o2, e2, fun v q => by rw [d2] at q; cases q⟩
  keep := fun i h h' st k => by
    obtain ⟨hz, hTI, ⟨x, y, hTO⟩, h1, h2⟩ := st
    exact ⟨k z (by simp) _ hz, k TI (by simp) _ hTI, ⟨x, y, k TO (by simp) _ hTO⟩, h1.at fun o q => k i1 (by simp) o q, h2.at fun o q => k i2 (by simp) o q⟩
  item := by
    intro X hP hw hK hc i pins s σ H E I hf st hg
    subst hP hw hK
    obtain ⟨hz, hTI, ⟨x0, y0, hTO⟩, h1, h2⟩ := st
    obtain ⟨xs, ys, x, y, hqx, hqy, hx, hy⟩ := hg
    obtain ⟨its, rv, p, _⟩ := I.tuple hqx
    obtain ⟨its2, rv2, p2, _⟩ := I.list hqy
    have hd := I.ok.hd hc
    have W := GoesN.zip2 (prog := X.prog) (w := X.w) (A := X.A) (elts := elts) (x1 := kk) (pos := tpos) S (Draws.tuple (A := X.A.in1) hd i1 a na its.toArray) (Draws.list (A := X.A.in1) hd i2 b nb its2.toArray)
    have l1 := rv.length
    have l2 := rv2.length
    have g1 := (List.getElem?_eq_some_iff.mp hx).1
    have g2 := (List.getElem?_eq_some_iff.mp hy).1
    refine wpAny_mono (W.goes i s (fun v s2 => ∃ x H', Inv X pins σ H' s2 ∧ RelV x v ∧ (ItzM X.K a b).yld i H x H' ∧ (IsZip s2.heap z TI TO .none ∧ IsTupOf2 s2.heap TI (.ref i1) (.ref i2) ∧ (∃ x y, IsTupOf2 s2.heap TO x y) ∧ s2.heap.IsTupleIter i1 a (i + 1) ∧ s2.heap.IsListIter i2 b (i + 1)) ∧ ∀ b ∈ [z, TI, TO, i1, i2], H' b = none) E
      (by simp only [List.size_toArray]; omega) ⟨hz, hTI, ⟨_, _, hTO⟩, ⟨h1, p⟩, ⟨h2, p2.isList⟩⟩ fun v h' tk hY hS hk _ => ?_) (fun r s1 h => h) fun _ _ h => h
    obtain ⟨T, v1, v2, rfl, hT, e1, e2, hTup⟩ := hY
    obtain ⟨u1, hu1, ru1⟩ := rv.get hx
    obtain ⟨u2, hu2, ru2⟩ := rv2.get hy
    have q1 : v1 = u1 := by have := e1.symm.trans (by simpa using hu1 : its.toArray[i]? = some u1); exact Option.some.inj this
    have q2 : v2 = u2 := by have := e2.symm.trans (by simpa using hu2 : its2.toArray[i]? = some u2); exact Option.some.inj this
    subst q1 q2
    have new : ObjOk X.prog X.w (upd H T (.tup [x, y])) h' T (.tup [x, y]) := ⟨by show 2 ≤ sizeLine; decide, [v1, v2], .cons ru1 (.cons ru2 .nil), hTup⟩
    have I1 : Inv X pins σ (upd H T (.tup [x, y])) { s with heap := h', toks := tk } :=
      I.turnedNew (t' := tk) (ch := [z, TO, i1, i2]) hk (fun b hb => hf b (by
        have e' : b = z ∨ b = TO ∨ b = i1 ∨ b = i2 := by simpa using hb
        rcases e' with q | q | q | q <;> rw [q] <;> simp)) hT new
    obtain ⟨s1, s2, s3, s4, s5⟩ := hS
    refine ⟨.ref T, _, I1, rfl, ⟨T, x, y, rfl, I.hok.fresh hT, rfl, fun l hl => by rw [I.tuple_inj hl hqx]; exact hx, fun l hl => by rw [I.list_inj hl hqy]; exact hy⟩, ⟨s1, s2, s3, s4.1, s5.1⟩, fun b hb => ?_⟩
    have hn : b ≠ T := fun e => by
      obtain ⟨o, ho, _⟩ : ∃ o, s.heap.get? b = some o ∧ True := by
        have e' : b = z ∨ b = TI ∨ b = TO ∨ b = i1 ∨ b = i2 := by simpa using hb
        rcases e' with q | q | q | q | q
        · rw [q]; exact ⟨_, hz, trivial⟩
        · rw [q]; exact ⟨_, hTI, trivial⟩
        · rw [q]; exact ⟨_, hTO, trivial⟩
        · rw [q]; obtain ⟨o, e, _⟩ := h1; exact ⟨o, e, trivial⟩
        · rw [q]; obtain ⟨o, e, _⟩ := h2; exact ⟨o, e, trivial⟩
      have := Heap.lt_size ho
      rw [e] at this
      exact absurd (Nat.lt_of_lt_of_le this hT) (Nat.lt_irrefl _)
    rw [upd_ne hn]
    exact (hf b hb).1
  done := by
    intro X hP hw hK hc i pins s σ H E I hf st hg
    subst hP hw hK
    obtain ⟨hz, hTI, ⟨x0, y0, hTO⟩, h1, h2⟩ := st
    obtain ⟨xs, ys, hqx, hqy, g1, g2⟩ := hg
    obtain ⟨its, rv, p, _⟩ := I.tuple hqx
    obtain ⟨its2, rv2, p2, _⟩ := I.list hqy
    have hd := I.ok.hd hc
    have W := GoesN.zip2 (prog := X.prog) (w := X.w) (A := X.A) (elts := elts) (x1 := kk) (pos := tpos) S (Draws.tuple (A := X.A.in1) hd i1 a na its.toArray) (Draws.list (A := X.A.in1) hd i2 b nb its2.toArray)
    have l1 := rv.length
    have l2 := rv2.length
    have en : min its.toArray.size its2.toArray.size = i := by simp only [List.size_toArray]; omega
    refine wpAny_mono (W.stops s (fun s1 => Inv X pins σ H s1) E (by rw [en]; exact ⟨hz, hTI, ⟨_, _, hTO⟩, ⟨h1, p⟩, ⟨h2, p2.isList⟩⟩) fun h' tk hk _ => ?_) (fun r s1 h => h) fun _ _ h => h
    exact I.turnedL (t' := tk) (ch := [z, TO, i1, i2]) hk (fun b hb => hf b (by
        have e' : b = z ∨ b = TO ∨ b = i1 ∨ b = i2 := by simpa using hb
        rcases e' with q | q | q | q <;> rw [q] <;> simp))
  self := fun A i s Q E st h => wpAny_pyIter_zip st.1 h
def iZipB (K : PySem.W.Frag) (ta : TA) : TI := fun σ H R => ta σ H fun vs H1 => ∃ a b xs ys, vs = [.ref a, .ref b] ∧ ((SqT K H1 a xs ∧ SqT K H1 b ys ∧ R (ItzT K a b) H1) ∨ (SqT K H1 a xs ∧ SqL K H1 b ys ∧ R (ItzM K a b) H1))
theorem pi_zipB {X : Cx} {e e2 : Expr} {ta : TA} {p pos tpos : Pos} {elts : List Expr} {kk : Nat} (hg : Gl X "zip") (hm : X.mg "zip" = none) (ha : PA X [e, e2] ta)
    (hs : starEach [e, e2] X.env = (false, eval e X.env) :: starEach [e2] X.env := by rfl) (hpl : (backTo pos (starEach [e2] X.env)).any (·.1) = false := by rfl) :
    PI X (.Tuple elts kk tpos) (.Call (.Name "zip" p) [e, e2] [] pos) (iZipB X.K ta) := by
  refine ⟨fun pins s σ H R I h => ?_⟩
  refine Call_ (ld_blt I hg hm PyProof.Rows.boot_zip (PyProof.Rows.callWith_type1 (thn (ha.run pos pins s σ H _ I h) fun us s1 ⟨vs, H1, I1, r1, q1⟩ => ?_) hs hpl))
  obtain ⟨a, b, xs, ys, ex, q1⟩ := q1
  subst ex
  cases r1 with
  | cons r rr =>
    cases rr with
    | cons r' rr =>
      cases rr
      cases r
      cases r'
      have fresh5 : ∀ c, c ∈ [s1.heap.objs.size + 4, s1.heap.objs.size + 2, s1.heap.objs.size + 3, s1.heap.objs.size, s1.heap.objs.size + 1] → FpOk X pins H1 c := fun c hcm => by
        have e' : c = s1.heap.objs.size + 4 ∨ c = s1.heap.objs.size + 2 ∨ c = s1.heap.objs.size + 3 ∨ c = s1.heap.objs.size ∨ c = s1.heap.objs.size + 1 := by simpa using hcm
        have hle : s1.heap.objs.size ≤ c := by
          rcases e' with z | z | z | z | z
          · rw [z]; exact Nat.le_add_right _ _
          · rw [z]; exact Nat.le_add_right _ _
          · rw [z]; exact Nat.le_add_right _ _
          · rw [z]; exact Nat.le_refl _
          · rw [z]; exact Nat.le_add_right _ _
        exact I1.fpOk hle (I1.hok.fresh hle)
      rcases q1 with ⟨hqx, hqy, q⟩ | ⟨hqx, hqy, q⟩
      · obtain ⟨its, rv, p1, _⟩ := I1.tuple hqx
        obtain ⟨its2, rv2, p2, _⟩ := I1.tuple hqy
        obtain ⟨o1, ho1, _⟩ := id p1
        obtain ⟨o2, ho2, _⟩ := id p2
        refine RZ.call_zipT (show s1.heap.IsTuple a its.toArray from p1) (show s1.heap.IsTuple b its2.toArray from p2) fun h' hz hTI hTO h1 h2 hsz hk => wpAny_pyIter_zip hz ?_
        have I2 : Inv X pins σ H1 { s1 with heap := h' } := I1.kept (t' := s1.toks) hk
        exact ⟨s1.heap.objs.size + 4, [s1.heap.objs.size + 4, s1.heap.objs.size + 2, s1.heap.objs.size + 3, s1.heap.objs.size, s1.heap.objs.size + 1], _, _, H1, rfl, I2, RZ.turn_zipT (PySem.W.ktu_apart s1.heap.objs.size a b (Heap.lt_size ho1) (Heap.lt_size ho2)), ⟨hz, hTI, ⟨_, _, hTO⟩, h1, h2⟩, fresh5, q⟩
      · obtain ⟨its, rv, p1, _⟩ := I1.tuple hqx
        obtain ⟨its2, rv2, p2, _⟩ := I1.list hqy
        obtain ⟨o1, ho1, _⟩ := id p1
        have la : a < s1.heap.objs.size := Heap.lt_size ho1
        have lb : b < s1.heap.objs.size := p2.lt
        refine zip_begins2 (begins_tuple a its.toArray) (begins_list b its2.toArray) p1 p2.isList fun h' hz hTI hTO h1 h2 hsz hk => wpAny_pyIter_zip hz ?_
        have I2 : Inv X pins σ H1 { s1 with heap := h' } := I1.kept (t' := s1.toks) hk
        have one : ∀ (l n : Addr), l < n → ∀ x ∈ [l], x < n := fun l n h x hx => (show x = l by simpa using hx) ▸ h
        have S := zip_sep2 (N := s1.heap.objs.size) (fp1 := [a]) (fp2 := [b]) (one a _ la) (one b _ lb)
        exact ⟨s1.heap.objs.size + 4, [s1.heap.objs.size + 4, s1.heap.objs.size + 2, s1.heap.objs.size + 3, s1.heap.objs.size, s1.heap.objs.size + 1], _, _, H1, rfl, I2,
          turn_zipM S (Nat.ne_of_lt la) (Nat.ne_of_lt (Nat.lt_succ_of_lt lb)), ⟨hz, hTI, ⟨_, _, hTO⟩, ⟨_, h1, rfl, rfl⟩, ⟨_, h2, rfl, rfl⟩⟩, fresh5, q⟩
theorem pi_zipBK {X : Cx} {K : PySem.W.Frag} (h : X.K = K) {e e2 : Expr} {ta : TA} {p pos tpos : Pos} {elts : List Expr} {kk : Nat} (hg : Gl X "zip") (hm : X.mg "zip" = none) (ha : PA X [e, e2] ta)
    (he : starEach [e, e2] X.env = (false, eval e X.env) :: starEach [e2] X.env := by rfl) (hpl : (backTo pos (starEach [e2] X.env)).any (·.1) = false := by rfl) : PI X (.Tuple elts kk tpos) (.Call (.Name "zip" p) [e, e2] [] pos) (iZipB K ta) := h ▸ pi_zipB hg hm ha he hpl
section
variable {K : PySem.W.Frag} {g : TG} {tt : TT} {te : TE} {vs : List Nat} {σ : L2.St} {H1 : Hp} {D a b : Addr} {Qd : Hp → Prop} {xs zs : List V} {n : Nat}
theorem lcZM (hlen : xs.length = zs.length) (P : Nat → List V → Hp → Prop) (h0 : ∀ H', Same H1 H' → H' D = some (.lst []) → P 0 [] H') (hD : H1 D = none) (hl : ∀ i acc H, P i acc H → SqT K H a xs ∧ SqL K H b zs)
    (hs : ∀ i x z acc H T H' Kt Kf, xs[i]? = some x → zs[i]? = some z → P i acc H → H D = some (.lst acc) → H T = none → Same H H' → H' T = some (.tup [x, z]) → LcK D (P (i + 1)) acc Kt Kf → LcT g tt te vs σ (.ref T) H' Kt Kf)
    (hd : ∀ acc H, P xs.length acc H → H D = some (.lst acc) → Qd H) : LcG (ItzM K a b) g tt te vs σ H1 D Qd := by
  refine ⟨fun i m H => m = xs.length - i ∧ i ≤ xs.length ∧ ∃ acc, H D = some (.lst acc) ∧ P i acc H, ⟨xs.length, rfl, Nat.zero_le _, [], upd_same, h0 _ (Same.upd0 hD) upd_same⟩, ?_⟩
  rintro i m H ⟨rfl, hi, acc, e, p⟩
  obtain ⟨q1, q2⟩ := hl i acc H p
  by_cases hlt : i < xs.length
  · have hlt2 : i < zs.length := by omega
    refine .inr ⟨⟨xs, zs, xs[i], zs[i], q1, q2, by simp [hlt], by simp [hlt2]⟩, fun H => ∃ acc, H D = some (.lst acc) ∧ P (i + 1) acc H, fun H' p' => ⟨xs.length - (i + 1), by omega, rfl, hlt, p'⟩, fun v H' y => ?_⟩
    obtain ⟨T, x, z, rfl, nT, rfl, hx, hz⟩ := y
    exact hs i x z acc H T _ _ _ (hx xs q1) (hz zs q2) p e nT (Same.upd0 nT) upd_same ⟨fun y H4 e4 z k => ⟨acc, e4, z, acc ++ [y], upd_same, k _ But.refl.upd upd_same⟩, fun H3 e3 k => ⟨acc, e3, k⟩⟩
  · have ei : i = xs.length := by omega
    subst ei
    exact .inl ⟨⟨xs, zs, q1, q2, rfl, hlen.symm⟩, hd acc H p e⟩
/-- .. all the same thing -/
theorem lcZMc (v : V) (hlen : xs.length = zs.length) (hD : H1 D = none) (ha : SqT K H1 a xs) (hb : SqL K H1 b zs) (hz : xs.length ≤ 100000)
    (hs : ∀ (i : Nat) (x z : V) (T : Addr) (H' : Hp) (Kt : V → Hp → Prop) (Kf : Hp → Prop), xs[i]? = some x → zs[i]? = some z → Same H1 H' → H' T = some (.tup [x, z]) → (∀ H4, Same H' H4 → Kt v H4) → LcT g tt te vs σ (.ref T) H' Kt Kf)
    (hd : ∀ H, Same H1 H → H D = some (.lst (List.replicate xs.length v)) → Qd H) : LcG (ItzM K a b) g tt te vs σ H1 D Qd :=
  lcZM hlen (fun i acc H => acc = List.replicate i v ∧ Same H1 H) (fun H' s _ => ⟨rfl, s⟩) hD (fun i acc H p => ⟨Same.seqT p.2 ha, p.2.seq hb⟩)
    (fun i x z acc H T H' Kt Kf hx hz' p e nT s gT k => by
      obtain ⟨rfl, sm⟩ := p
      have hi := (List.getElem?_eq_some_iff.mp hx).1
      refine hs i x z T H' Kt Kf hx hz' (sm.trans s) gT fun H4 s4 => k.yes v H4 (s4 _ _ (s _ _ e)) (by rw [List.length_replicate, sizeLine_eq]; omega) fun H5 b5 _ => ⟨List.replicate_succ'.symm, Same.mut' ((sm.trans s).trans s4) b5 hD⟩)
    (fun acc H p e => hd H p.2 (by rw [← p.1]; exact e))
/-- .. of lists -/
theorem lcZc (v : V) (hlen : xs.length = zs.length) (hD : H1 D = none) (ha : SqL K H1 a xs) (hb : SqL K H1 b zs) (hz : xs.length ≤ 100000)
    (hs : ∀ (i : Nat) (x z : V) (T : Addr) (H' : Hp) (Kt : V → Hp → Prop) (Kf : Hp → Prop), xs[i]? = some x → zs[i]? = some z → Same H1 H' → H' T = some (.tup [x, z]) → (∀ H4, Same H' H4 → Kt v H4) → LcT g tt te vs σ (.ref T) H' Kt Kf)
    (hd : ∀ H, Same H1 H → H D = some (.lst (List.replicate xs.length v)) → Qd H) : LcG (Itz K a b) g tt te vs σ H1 D Qd :=
  lcZ hlen (fun i acc H => acc = List.replicate i v ∧ Same H1 H) (fun H' s _ => ⟨rfl, s⟩) hD (fun i acc H p => ⟨p.2.seq ha, p.2.seq hb⟩)
    (fun i x z acc H T H' Kt Kf hx hz' p e nT s gT k => by
      obtain ⟨rfl, sm⟩ := p
      have hi := (List.getElem?_eq_some_iff.mp hx).1
      refine hs i x z T H' Kt Kf hx hz' (sm.trans s) gT fun H4 s4 => k.yes v H4 (s4 _ _ (s _ _ e)) (by rw [List.length_replicate, sizeLine_eq]; omega) fun H5 b5 _ => ⟨List.replicate_succ'.symm, Same.mut' ((sm.trans s).trans s4) b5 hD⟩)
    (fun acc H p e => hd H p.2 (by rw [← p.1]; exact e))
/-- .. items that are new objects -/
theorem lcZs (hlen : xs.length = zs.length) (R : Nat → V → Hp → Prop) (mono : ∀ i v H H' acc, R i v H → H D = some (.lst acc) → But D H H' → R i v H') (hD : H1 D = none) (hx : SqL K H1 a xs) (hz : SqL K H1 b zs) (hn : xs.length ≤ 100000)
    (hs : ∀ (i : Nat) (x z : V) (T : Addr) (H : Hp) (Kt : V → Hp → Prop) (Kf : Hp → Prop), xs[i]? = some x → zs[i]? = some z → Same H1 H → H T = some (.tup [x, z]) → (∀ v H4, Same H H4 → R i v H4 → Kt v H4) → LcT g tt te vs σ (.ref T) H Kt Kf)
    (hd : ∀ (us : List V) (H : Hp), Same H1 H → us.length = xs.length → (∀ (i : Nat) (b : V), us[i]? = some b → R i b H) → H D = some (.lst us) → Qd H) : LcG (Itz K a b) g tt te vs σ H1 D Qd :=
  lcZ hlen (fun i acc H' => Same H1 H' ∧ acc.length = i ∧ ∀ (i : Nat) (b : V), acc[i]? = some b → R i b H')
    (fun H' s' _ => ⟨s', rfl, fun i b h => by cases h⟩) hD (fun i acc H' p => ⟨p.1.seq hx, p.1.seq hz⟩) (fun i x z acc H T H' Kt Kf hxi hzi p e nT s gT kk => by
      have hi := (List.getElem?_eq_some_iff.mp hxi).1
      obtain ⟨dp, hul, hub⟩ := p
      exact hs i x z T H' Kt Kf hxi hzi (dp.trans s) gT fun v H4 s4 hR => kk.yes _ _ (s4 _ _ (s _ _ e)) (Nat.lt_of_lt_of_le (show _ < 100001 by omega) (by decide)) fun H5 b5 g5 => ⟨Same.mut' ((dp.trans s).trans s4) b5 hD, by rw [List.length_append, hul]; rfl, fun j c hc => by
        by_cases hj : j < acc.length
        · rw [List.getElem?_append_left hj] at hc
          exact mono _ _ _ _ _ (mono _ _ _ _ _ (hub j c hc) e (Same.but (s.trans s4))) (s4 _ _ (s _ _ e)) b5
        · have hj2 : j = i := by
            have := (List.getElem?_eq_some_iff.mp hc).1
            rw [List.length_append] at this
            simp at this; omega
          subst hj2
          rw [← hul, List.getElem?_concat_length] at hc
          cases hc; exact mono _ _ _ _ _ hR (s4 _ _ (s _ _ e)) b5⟩)
    (fun acc H' p e => by
      obtain ⟨dp, hul, hub⟩ := p
      exact hd acc H' dp hul hub e)
end
end My

/-! ### what a box has of its own, field by field; records; boxes equal to themselves -/
namespace My
open PySem PySem.Spec PyProof.Rows L2
inductive Ov
  | tx (l : List Nat)
  | n (i : Int)
  | b (v : Bool)
  | w (s : String)
  | tks (ts : List Tk)
  | sps (qs : List (Int × Int × Int × Int))
def pairsO : Own → List (String × Ov)
  | .words t => [("text", .tx t)]
  | .picture a d => [("across", .n a), ("down", .n d)]
  | .row turn gap lane pack stands => [("turn", .b turn), ("gap", .n gap), ("lane", .n lane), ("pack", .w pack), ("stands", .w stands)]
  | .pile gap pack stands => [("gap", .n gap), ("pack", .w pack), ("stands", .w stands)]
  | .grid sp cs rs gap lane stands => [("spots", .sps sp), ("columns", .tks cs), ("rows", .tks rs), ("gap", .n gap), ("lane", .n lane), ("stands", .w stands)]
def usualO : Own → Own
  | .words t => .words t
  | .picture a d => .picture a d
  | .row _ _ _ _ _ => .row false 0 0 "start" "stretch"
  | .pile _ _ _ => .pile 0 "start" "stretch"
  | .grid sp cs rs _ _ _ => .grid sp cs rs 0 0 "stretch"
/-- as it is handed in -/
def OvL (H : Hp) (v : V) : Ov → Prop
  | .tx l => v = .str (sO l)
  | .n i => v = .int i
  | .b c => v = .bl c
  | .w s => v = sX s
  | .tks ts => ∃ p us, v = .ref p ∧ H p = some (.lst us) ∧ TksAt H us ts
  | .sps qs => ∃ p us, v = .ref p ∧ H p = some (.lst us) ∧ SpsAt H us qs
/-- as it stands in a box -/
def OvT (H : Hp) (v : V) : Ov → Prop
  | .tx l => v = .str (sO l)
  | .n i => v = .int i
  | .b c => v = .bl c
  | .w s => v = sX s
  | .tks ts => ∃ p us, v = .ref p ∧ H p = some (.tup us) ∧ TksAt H us ts
  | .sps qs => ∃ p us, v = .ref p ∧ H p = some (.tup us) ∧ SpsAt H us qs
theorem OvT.ks {H H' : Hp} {v : V} {o : Ov} (h : OvT H v o) (k : KeepS H H') : OvT H' v o := by
  cases o with
  | tx | n | b | w => exact h
  | tks ts => obtain ⟨p, us, e, g, t⟩ := h; exact ⟨p, us, e, k.tup g, k.tks t⟩
  | sps qs => obtain ⟨p, us, e, g, t⟩ := h; exact ⟨p, us, e, k.tup g, k.sps t⟩
theorem OvL.same {H H' : Hp} {v : V} {o : Ov} (h : OvL H v o) (s : Same H H') : OvL H' v o := by
  cases o with
  | tx | n | b | w => exact h
  | tks ts => obtain ⟨p, us, e, g, t⟩ := h; exact ⟨p, us, e, s _ _ g, (Same.ks s).tks t⟩
  | sps qs => obtain ⟨p, us, e, g, t⟩ := h; exact ⟨p, us, e, s _ _ g, (Same.ks s).sps t⟩
/-- a list is changed that isn't it -/
theorem OvL.but {H H' : Hp} {v : V} {o : Ov} {a : Addr} {zs : List V} (h : OvL H v o) (b : But a H H') (g : H a = some (.lst zs)) (n : v ≠ .ref a) : OvL H' v o := by
  have k : KeepS H H' := KeepS.refl.butL b g
  cases o with
  | tx | n | b | w => exact h
  | tks ts => obtain ⟨p, us, rfl, g, t⟩ := h; exact ⟨p, us, rfl, b.app (fun e => n (by rw [e])) g, k.tks t⟩
  | sps qs => obtain ⟨p, us, rfl, g, t⟩ := h; exact ⟨p, us, rfl, b.app (fun e => n (by rw [e])) g, k.sps t⟩
def spD (q : Int × Int × Int × Int) : PyData := .tuple [.int q.1, .int q.2.1, .int q.2.2.1, .int q.2.2.2]
def ovD : Ov → PyData
  | .tx l => .str (sO l)
  | .n i => .int i
  | .b c => .bool c
  | .w s => .str (Str.ofString s)
  | .tks ts => .tuple (ts.map tkD)
  | .sps qs => .tuple (qs.map spD)
def ovDL : Ov → PyData
  | .tks ts => .list (ts.map tkD)
  | .sps qs => .list (qs.map spD)
  | o => ovD o
def Ov.ok : Ov → Prop
  | .tx l => ∀ c ∈ l, c < 127
  | _ => True
theorem dp_sps {K : PySem.W.Frag} {H : Hp} {us : List V} {qs : List (Int × Int × Int × Int)} (h : SpsAt H us qs) : DpAll K H us (qs.map spD) := dpAll_of h.1 fun i v q a b => by
  obtain ⟨p, rfl, g⟩ := h.2 i v q a b
  exact .tup (sqT g) (.cons (.int _) (.cons (.int _) (.cons (.int _) (.cons (.int _) .nil))))
theorem OvT.dp {K : PySem.W.Frag} {H : Hp} {v : V} {o : Ov} (h : OvT H v o) : Dp K H v (ovD o) := by
  cases o with
  | tx l => obtain rfl : v = _ := h; exact .str _
  | n i => obtain rfl : v = _ := h; exact .int _
  | b c => obtain rfl : v = _ := h; exact .bl _
  | w s => obtain rfl : v = _ := h; exact .str _
  | tks ts => obtain ⟨p, us, rfl, g, t⟩ := h; exact .tup (sqT g) (dp_tks t)
  | sps qs => obtain ⟨p, us, rfl, g, t⟩ := h; exact .tup (sqT g) (dp_sps t)
theorem OvL.dp {K : PySem.W.Frag} {H : Hp} {v : V} {o : Ov} (h : OvL H v o) : Dp K H v (ovDL o) := by
  cases o with
  | tx l => obtain rfl : v = _ := h; exact .str _
  | n i => obtain rfl : v = _ := h; exact .int _
  | b c => obtain rfl : v = _ := h; exact .bl _
  | w s => obtain rfl : v = _ := h; exact .str _
  | tks ts => obtain ⟨p, us, rfl, g, t⟩ := h; exact .lst (sqL g) (dp_tks t)
  | sps qs => obtain ⟨p, us, rfl, g, t⟩ := h; exact .lst (sqL g) (dp_sps t)
theorem strOk_sml {l : List Nat} (h : ∀ c ∈ l, c < 127) : PyData.strOk (sO l) = true := strOk_iff.mpr fun c hc => by
  have := h c (by simpa [sO] using hc)
  omega
theorem spD_can (q : Int × Int × Int × Int) : (spD q).canLay0 = true ∧ (spD q).depth ≤ 1 := by simp [spD, PyData.canLay0, PyData.canLayAll0, PyData.depth, PyData.depthAll]
theorem ovD_can {o : Ov} (h : o.ok) : (ovD o).canLay0 = true ∧ (ovD o).depth ≤ 2 := by
  cases o with
  | tx l => exact ⟨strOk_sml h, Nat.zero_le _⟩
  | n i => exact ⟨rfl, Nat.zero_le _⟩
  | b c => exact ⟨rfl, Nat.zero_le _⟩
  | w s => exact ⟨strOk_of s, Nat.zero_le _⟩
  | tks ts => exact ⟨canLayAll0_map (g := tkD) (fun x => (tkD_can x).1) ts, Nat.succ_le_succ (depthAll_map (g := tkD) (m := 1) (fun x => (tkD_can x).2) ts)⟩
  | sps qs => exact ⟨canLayAll0_map (g := spD) (fun x => (spD_can x).1) qs, Nat.succ_le_succ (depthAll_map (g := spD) (m := 1) (fun x => (spD_can x).2) qs)⟩
theorem ovDL_can {o : Ov} (h : o.ok) : (ovDL o).canLay0 = true ∧ (ovDL o).depth ≤ 2 := by
  cases o with
  | tx l => exact ovD_can h
  | n i => exact ovD_can h
  | b c => exact ovD_can h
  | w s => exact ovD_can h
  | tks ts => exact ⟨canLayAll0_map (g := tkD) (fun x => (tkD_can x).1) ts, Nat.succ_le_succ (depthAll_map (g := tkD) (m := 1) (fun x => (tkD_can x).2) ts)⟩
  | sps qs => exact ⟨canLayAll0_map (g := spD) (fun x => (spD_can x).1) qs, Nat.succ_le_succ (depthAll_map (g := spD) (m := 1) (fun x => (spD_can x).2) qs)⟩
def Own.clean (o : Own) : Prop := ∀ p ∈ pairsO o, p.2.ok
/-- a box's own fields, in a tuple -/
def OwnT (H : Hp) (os : List V) (o : Own) : Prop := os.length = (pairsO o).length ∧ ∀ (i : Nat) (v : V) (p : String × Ov), os[i]? = some v → (pairsO o)[i]? = some p → OvT H v p.2
theorem OwnT.ks {H H' : Hp} {os : List V} {o : Own} (h : OwnT H os o) (k : KeepS H H') : OwnT H' os o := ⟨h.1, fun i v p a b => (h.2 i v p a b).ks k⟩
theorem OwnT.dp {K : PySem.W.Frag} {H : Hp} {os : List V} {o : Own} (h : OwnT H os o) : DpAll K H os ((pairsO o).map fun p => ovD p.2) := dpAll_of h.1 fun i v p a b => (h.2 i v p a b).dp
/-! #### the told fields of a style -/
def dfl10 (U : Addr) : List V := [.non, .non, .non, .non, .non, .non, .int 0, .int 1, .ref U, .non]
def ToldAt (H : Hp) (U : Addr) (ws ps : List V) : Prop := ps.length = 10 ∧ ∀ (i : Nat) (v : V), ps[i]? = some v → ∃ (a : Addr) (n : Str) (w d : V), v = .ref a ∧ names10[i]? = some n ∧ ws[i]? = some w ∧ (dfl10 U)[i]? = some d ∧ H a = some (.tup [.str n, w, d])
theorem ToldAt.same {H H' : Hp} {U : Addr} {ws ps : List V} (h : ToldAt H U ws ps) (s : Same H H') : ToldAt H' U ws ps := ⟨h.1, fun i v e => let ⟨a, n, w, d, e1, e2, e3, e4, g⟩ := h.2 i v e; ⟨a, n, w, d, e1, e2, e3, e4, s _ _ g⟩⟩
section
variable {K : PySem.W.Frag} {H H' : Hp} {v : V}
theorem okF_dp {i : Nat} (h : OkF K H i v) : ∃ d : PyData, (∀ H', Same H H' → Dp K H' v d) ∧ d.canLay0 = true ∧ d.depth ≤ 2 := by
  have int : ∀ n : Int, ∃ d : PyData, (∀ H', Same H H' → Dp K H' (.int n) d) ∧ d.canLay0 = true ∧ d.depth ≤ 2 := fun n => ⟨.int n, fun _ _ => .int _, rfl, Nat.zero_le _⟩
  have non : ∃ d : PyData, (∀ H', Same H H' → Dp K H' .non d) ∧ d.canLay0 = true ∧ d.depth ≤ 2 := ⟨.none, fun _ _ => .non, rfl, Nat.zero_le _⟩
  have sz : ∀ {v}, SzAt H v → ∃ d : PyData, (∀ H', Same H H' → Dp K H' v d) ∧ d.canLay0 = true ∧ d.depth ≤ 2 := fun {v} h => by
    cases h with
    | non => exact non
    | cells n => exact int n
    | part a n h => exact ⟨.tuple [.str (Str.ofString "part"), .int n], fun H' s => .tup (sqT (s _ _ h)) (.cons (.str _) (.cons (.int _) .nil)), (show (PyData.strOk (Str.ofString "part") && (true && true)) = true by decide +kernel), Nat.le_of_ble_eq_true rfl⟩
    | tie a l sd m hl hs h =>
      refine ⟨.tuple [.str (Str.ofString "as"), .str (sO l), .str (Str.ofString sd), .int m], fun H' s => .tup (sqT (s _ _ h)) (.cons (.str _) (.cons (.str _) (.cons (.str _) (.cons (.int _) .nil)))), ?_, ?_⟩
      · have h2 : ∀ c ∈ lettersL, c < 127 := by decide +kernel
        show (PyData.strOk _ && (PyData.strOk _ && (PyData.strOk _ && (true && true)))) = true
        rw [strOk_sml fun c m => h2 c (hl.2.2 c m)]
        rcases hs with rfl | rfl <;> decide +kernel
      · exact Nat.le_of_ble_eq_true rfl
  have bd : ∀ {v}, BdAt v → ∃ d : PyData, (∀ H', Same H H' → Dp K H' v d) ∧ d.canLay0 = true ∧ d.depth ≤ 2 := fun h => by
    rcases h with rfl | ⟨n, rfl⟩
    · exact non
    · exact int n
  have ct : ∀ {v}, CtAt v → ∃ d : PyData, (∀ H', Same H H' → Dp K H' v d) ∧ d.canLay0 = true ∧ d.depth ≤ 2 := fun ⟨n, e⟩ => by subst e; exact int n
  match i, h with
  | 0, h => exact sz h
  | 1, h => exact sz h
  | 2, h => exact bd h
  | 3, h => exact bd h
  | 4, h => exact bd h
  | 5, h => exact bd h
  | 6, h => exact ct h
  | 7, h => exact ct h
  | 8, ⟨a, n0, n1, n2, n3, e, g⟩ =>
    subst e
    exact ⟨.tuple [.int n0, .int n1, .int n2, .int n3], fun H' s => .tup (Same.seqT s g) (.cons (.int _) (.cons (.int _) (.cons (.int _) (.cons (.int _) .nil)))), rfl, Nat.le_of_ble_eq_true rfl⟩
  | _ + 9, h =>
    rcases h with rfl | ⟨s, m, rfl⟩
    · exact non
    · exact ⟨.str (Str.ofString s), fun _ _ => .str _, strOk_of s, Nat.zero_le _⟩
theorem dps_of {P : V → PyData → Prop} : ∀ {xs : List V}, (∀ x ∈ xs, ∃ d, P x d) → ∃ ds : List PyData, ds.length = xs.length ∧ ∀ (i : Nat) (v : V) (d : PyData), xs[i]? = some v → ds[i]? = some d → P v d
  | [], _ => ⟨[], rfl, fun i v d a => by cases a⟩
  | x :: xs, h => by
    obtain ⟨d, hd⟩ := h x List.mem_cons_self
    obtain ⟨ds, hl, hp⟩ := dps_of (P := P) fun y m => h y (List.mem_cons_of_mem _ m)
    refine ⟨d :: ds, by rw [List.length_cons, List.length_cons, hl], fun i v e a b => ?_⟩
    cases i with
    | zero => cases a; cases b; exact hd
    | succ i => exact hp i v e a b
theorem dpAll_ds : ∀ {vs : List V} {ds : List PyData}, ds.length = vs.length → (∀ (i : Nat) (v : V) (d : PyData), vs[i]? = some v → ds[i]? = some d → Dp K H v d) → DpAll K H vs ds
  | [], [], _, _ => .nil
  | [], _ :: _, h, _ => by cases h
  | _ :: _, [], h, _ => by cases h
  | x :: xs, d :: ds, h, k => .cons (k 0 x d rfl rfl) (dpAll_ds (by simpa using h) fun i v d e1 e2 => k (i + 1) v d e1 e2)
theorem canAll : ∀ {ds : List PyData}, (∀ d ∈ ds, d.canLay0 = true) → PyData.canLayAll0 ds = true
  | [], _ => rfl
  | d :: ds, h => by
    show (d.canLay0 && PyData.canLayAll0 ds) = true
    rw [h d List.mem_cons_self, canAll fun z m => h z (List.mem_cons_of_mem _ m)]; rfl
theorem depAll {m : Nat} : ∀ {ds : List PyData}, (∀ d ∈ ds, d.depth ≤ m) → PyData.depthAll ds ≤ m
  | [], _ => Nat.zero_le _
  | d :: ds, h => Nat.max_le.mpr ⟨h d List.mem_cons_self, depAll fun z k => h z (List.mem_cons_of_mem _ k)⟩
theorem choose10 {P : Nat → PyData → Prop} (n : Nat) (h : ∀ i, i < n → ∃ d, P i d) : ∃ ds : List PyData, ds.length = n ∧ ∀ i d, ds[i]? = some d → P i d := by
  induction n with
  | zero => exact ⟨[], rfl, fun i d e => by cases e⟩
  | succ n ih =>
    obtain ⟨ds, hl, hd⟩ := ih fun i hi => h i (by omega)
    obtain ⟨d, hp⟩ := h n (by omega)
    refine ⟨ds ++ [d], by rw [List.length_append, hl]; rfl, fun i e he => ?_⟩
    by_cases hi : i < n
    · rw [List.getElem?_append_left (by omega)] at he; exact hd i e he
    · rw [List.getElem?_append_right (by omega), hl] at he
      have : i - n = 0 := by
        cases hz : i - n with
        | zero => rfl
        | succ m => rw [hz] at he; cases he
      rw [this] at he
      cases he
      have : i = n := by omega
      subst this
      exact hp
theorem told_dp {ws : List V} {U : Addr} (ok : OkL K H ws) (hU : ∀ H, SqT K H U [.int 0, .int 0, .int 0, .int 0]) : ∃ ds : List PyData, SeqAt.shaped (.tuple ds) = true ∧ (PyData.tuple ds).canLay0 = true ∧
    ∀ H' ps p, Same H H' → H' p = some (.tup ps) → ToldAt H' U ws ps → Dp K H' (.ref p) (.tuple ds) := by
  obtain ⟨ds, hl, hd⟩ := choose10 (P := fun i d => (∀ H' ps, Same H H' → ToldAt H' U ws ps → ∀ v, ps[i]? = some v → Dp K H' v d) ∧ d.canLay0 = true ∧ d.depth ≤ 4) 10 fun i hi => by
    obtain ⟨w, hw⟩ : ∃ w, ws[i]? = some w := ⟨_, List.getElem?_eq_getElem (by rw [ok.1]; exact hi)⟩
    obtain ⟨d, h1, h2, h3⟩ := okF_dp (ok.2 i w hw)
    obtain ⟨n, hn⟩ : ∃ n, names10[i]? = some n := ⟨_, List.getElem?_eq_getElem (by exact hi)⟩
    obtain ⟨u, hu⟩ : ∃ u, (dfl10 U)[i]? = some u := ⟨_, List.getElem?_eq_getElem (by exact hi)⟩
    have sn : PyData.strOk n = true := by
      match i, hn with
      | 0, e => cases e; decide +kernel
      | 1, e => cases e; decide +kernel
      | 2, e => cases e; decide +kernel
      | 3, e => cases e; decide +kernel
      | 4, e => cases e; decide +kernel
      | 5, e => cases e; decide +kernel
      | 6, e => cases e; decide +kernel
      | 7, e => cases e; decide +kernel
      | 8, e => cases e; decide +kernel
      | 9, e => cases e; decide +kernel
      | n + 10, e => cases e
    have su : ∃ e : PyData, (∀ H', Dp K H' u e) ∧ e.canLay0 = true ∧ e.depth ≤ 2 := by
      have nn : ∃ e : PyData, (∀ H', Dp K H' V.non e) ∧ e.canLay0 = true ∧ e.depth ≤ 2 := ⟨.none, fun _ => .non, rfl, Nat.zero_le _⟩
      have ni : ∀ n : Int, ∃ e : PyData, (∀ H', Dp K H' (V.int n) e) ∧ e.canLay0 = true ∧ e.depth ≤ 2 := fun n => ⟨.int n, fun _ => .int _, rfl, Nat.zero_le _⟩
      match i, hu with
      | 0, e => cases e; exact nn
      | 1, e => cases e; exact nn
      | 2, e => cases e; exact nn
      | 3, e => cases e; exact nn
      | 4, e => cases e; exact nn
      | 5, e => cases e; exact nn
      | 6, e => cases e; exact ni 0
      | 7, e => cases e; exact ni 1
      | 8, e => cases e; exact ⟨.tuple [.int 0, .int 0, .int 0, .int 0], fun H' => .tup (hU H') (.cons (.int _) (.cons (.int _) (.cons (.int _) (.cons (.int _) .nil)))), rfl, by decide⟩
      | 9, e => cases e; exact nn
      | n + 10, e => cases e
    obtain ⟨e, e1, e2, e3⟩ := su
    refine ⟨.tuple [.str n, d, e], fun H' ps s tl v hv => ?_, ?_, ?_⟩
    · obtain ⟨a, n', w', u', rfl, q1, q2, q3, q4⟩ := tl.2 i v hv
      rw [hn] at q1
      rw [hw] at q2
      rw [hu] at q3
      cases q1
      cases q2
      cases q3
      exact .tup (sqT q4) (.cons (.str _) (.cons (h1 H' s) (.cons (e1 H') .nil)))
    · show (PyData.strOk n && (d.canLay0 && (e.canLay0 && true))) = true
      rw [sn, h2, e2]; rfl
    · show max 0 (max d.depth (max e.depth 0)) + 1 ≤ 4
      omega
  refine ⟨ds, ?_, ?_, fun H' ps p s g tl => .tup (sqT g) (dpAll_ds (by rw [tl.1, hl]) fun i v d e1 e2 => (hd i d e2).1 H' ps s tl v e1)⟩
  · refine Bool.and_eq_true_iff.mpr ⟨canAll fun d m => by obtain ⟨i, e⟩ := List.getElem?_of_mem m; exact (hd i d e).2.1, decide_eq_true ?_⟩
    have : ∀ es : List PyData, (∀ d ∈ es, d.depth ≤ 4) → PyData.depthAll es ≤ 4 := fun es => by
      induction es with
      | nil => exact fun _ => Nat.zero_le _
      | cons a l ih => exact fun h => Nat.max_le.mpr ⟨h a List.mem_cons_self, ih fun z m => h z (List.mem_cons_of_mem _ m)⟩
    have := this ds fun d m => by obtain ⟨i, e⟩ := List.getElem?_of_mem m; exact (hd i d e).2.2
    show PyData.depthAll ds + 1 ≤ 64
    omega
  · exact canAll fun d m => by obtain ⟨i, e⟩ := List.getElem?_of_mem m; exact (hd i d e).2.1
/-- the data of a style's values -/
theorem sty_dps {ws : List V} (ok : OkL K H ws) : ∃ ds : List PyData, (∀ d ∈ ds, d.canLay0 = true ∧ d.depth ≤ 2) ∧ ∀ H', Same H H' → DpAll K H' ws ds := by
  obtain ⟨ds, hl, hp⟩ := dps_of (P := fun v d => (∀ H', Same H H' → Dp K H' v d) ∧ d.canLay0 = true ∧ d.depth ≤ 2) (xs := ws) fun x m => by
    obtain ⟨i, e⟩ := List.getElem?_of_mem m
    exact okF_dp (ok.2 i x e)
  refine ⟨ds, fun d m => ?_, fun H' s => dpAll_ds hl fun i v d a b => (hp i v d a b).1 H' s⟩
  obtain ⟨i, e⟩ := List.getElem?_of_mem m
  have hi := (List.getElem?_eq_some_iff.mp e).1
  exact (hp i _ d (List.getElem?_eq_getElem (by rw [← hl]; exact hi)) e).2
end
theorem lcTy {K : PySem.W.Frag} {g : TG} {tt : TT} {te : TE} {vs : List Nat} {σ : L2.St} {H1 : Hp} {D a : Addr} {Qd : Hp → Prop} {xs : List V} (f : Nat → V) (hD : H1 D = none) (hx : SqT K H1 a xs) (hn : xs.length ≤ 100000)
    (hs : ∀ (i : Nat) (x : V) (H : Hp) (Kt : V → Hp → Prop) (Kf : Hp → Prop), xs[i]? = some x → Same H1 H → (∀ H4, Same H H4 → Kt (f i) H4) → LcT g tt te vs σ x H Kt Kf)
    (hd : ∀ H, Same H1 H → H D = some (.lst ((List.range xs.length).map f)) → Qd H) : LcG (Itt K a) g tt te vs σ H1 D Qd :=
  lcTq (ysF f (fun _ => true) (List.range xs.length)) hD hx hn (fun i x H Kt Kf hxi s qq => by
    have hi := (List.getElem?_eq_some_iff.mp hxi).1
    exact hs i x H Kt Kf hxi s (fun H4 s4 => qq.yes _ _ s4 (by unfold ysF; rw [range_get hi]; rfl)))
    (fun H s h => hd H s (by have := ysF_all f (fun _ => true) (List.range xs.length); rw [List.length_range] at this; rw [h, this, List.filter_eq_self.mpr fun _ _ => rfl]))
/-! #### records -/
def RecAt (H : Hp) (t : At) (p : Addr) : Prop := ∃ (f o n : Addr) (os : List V), H p = some (.tup [sX (kdW t.own.kd), .str (sO t.nm), .ref f, .ref o, .ref n]) ∧ H f = some (.tup t.st) ∧ H o = some (.tup os) ∧ OwnT H os t.own ∧ H n = some (.tup (t.kids.map fun k => .str (sO k.nm)))
theorem RecAt.same {H H' : Hp} {t : At} {p : Addr} (h : RecAt H t p) (s : Same H H') : RecAt H' t p := let ⟨f, o, n, os, g, gf, go, w, gn⟩ := h; ⟨f, o, n, os, s _ _ g, s _ _ gf, s _ _ go, w.ks (Same.ks s), s _ _ gn⟩
theorem rec_dp {bc : Kd → Addr} {S : Addr} {K : PySem.W.Frag} {H : Hp} {t : At} (hb : BoxAt bc S K H t) (hc : t.own.clean) : ∃ ds : List PyData, SeqAt.shaped (.tuple ds) = true ∧ (PyData.tuple ds).canLay0 = true ∧ ∀ H' p, Same H H' → RecAt H' t p → Dp K H' (.ref p) (.tuple ds) := by
  obtain ⟨_, _, _, _, _, _, _, _, _, nok, ok⟩ := hb.ob
  obtain ⟨fs, cf, df⟩ := sty_dps ok
  have let127 : ∀ c ∈ lettersL, c < 127 := by decide +kernel
  have cs : ∀ d ∈ (pairsO t.own).map fun p => ovD p.2, d.canLay0 = true ∧ d.depth ≤ 2 := fun d m => by
    obtain ⟨p, mp, rfl⟩ := List.mem_map.mp m
    exact ovD_can (hc p mp)
  have cn : ∀ d ∈ t.kids.map fun k => PyData.str (sO k.nm), d.canLay0 = true ∧ d.depth ≤ 2 := fun d m => by
    obtain ⟨k, mk, rfl⟩ := List.mem_map.mp m
    obtain ⟨_, _, _, _, _, _, _, _, _, nk, _⟩ := (hb.kid k mk).ob
    exact ⟨strOk_sml fun c m => let127 c (nk.2.2 c m), Nat.zero_le _⟩
  have lay : (PyData.tuple [.str (Str.ofString (kdW t.own.kd)), .str (sO t.nm), .tuple fs, .tuple ((pairsO t.own).map fun p => ovD p.2), .tuple (t.kids.map fun k => PyData.str (sO k.nm))]).canLay0 = true := by
    show (PyData.strOk _ && (PyData.strOk _ && (PyData.canLayAll0 _ && (PyData.canLayAll0 _ && (PyData.canLayAll0 _ && true))))) = true
    rw [strOk_of, strOk_sml fun c m => let127 c (nok.2.2 c m), canAll fun d m => (cf d m).1, canAll fun d m => (cs d m).1, canAll fun d m => (cn d m).1]
    rfl
  refine ⟨_, ?_, lay, fun H' p s r => ?_⟩
  · unfold SeqAt.shaped
    rw [lay]
    refine decide_eq_true ?_
    have h1 := depAll fun d m => (cf d m).2
    have h2 := depAll fun d m => (cs d m).2
    have h3 := depAll fun d m => (cn d m).2
    show max 0 (max 0 (max (PyData.depthAll fs + 1) (max (PyData.depthAll _ + 1) (max (PyData.depthAll _ + 1) 0)))) + 1 ≤ 64
    omega
  · obtain ⟨f, o, n, os, g, gf, go, w, gn⟩ := r
    exact .tup (sqT g) (.cons (.str _) (.cons (.str _) (.cons (.tup (sqT gf) (df H' s)) (.cons (.tup (sqT go) w.dp) (.cons (.tup (sqT gn) (dpAll_map (fun k => .str _) t.kids)) .nil)))))
/-! #### the methods -/
def sp_kind (bc : Kd → Addr) (S : Addr) (K : PySem.W.Frag) (kd : Kd) : Sp := fun vs H Q _ => ∃ t : At, vs = [.ref t.x] ∧ BoxAt bc S K H t ∧ t.own.kd = kd ∧ Q (sX (kdW kd)) H
def sp_ownf (bc : Kd → Addr) (S : Addr) (K : PySem.W.Frag) (kd : Kd) : Sp := fun vs H Q _ => ∃ t : At, vs = [.ref t.x] ∧ BoxAt bc S K H t ∧ t.own.kd = kd ∧ ∀ (b : Addr) (os : List V) H', Same H H' → H' b = some (.tup os) → OwnT H' os t.own → Q (.ref b) H'
def sp_record (bc : Kd → Addr) (S : Addr) (K : PySem.W.Frag) : Sp := fun vs H Q _ => ∃ t : At, vs = [.ref t.x] ∧ BoxAt bc S K H t ∧ ∀ (p : Addr) H', Same H H' → RecAt H' t p → Q (.ref p) H'
theorem BoxAt.meth {bc : Kd → Addr} {S : Addr} {K : PySem.W.Frag} {H : Hp} {t : At} (h : BoxAt bc S K H t) : ∃ (dx : Addr) (fs : List (Str × V)), H t.x = some (.ins (bc t.own.kd) dx fs) ∧ fs.lookup (Str.ofString "kind") = none ∧ fs.lookup (Str.ofString "own_fields") = none ∧ fs.lookup (Str.ofString "record") = none := by
  cases h with
  | words hx hy ok hn ht => exact ⟨_, _, hx, rfl, rfl, rfl⟩
  | picture hx hy ok hn ha hd => exact ⟨_, _, hx, rfl, rfl, rfl⟩
  | row hx hy ok hn g0 l0 hb lk hk => exact ⟨_, _, hx, rfl, rfl, rfl⟩
  | pile hx hy ok hn g0 hb lk hk => exact ⟨_, _, hx, rfl, rfl, rfl⟩
  | grid hx hy ok hn g0 l0 hb lk hk hc tc oc nc hr tr or nr hs ts lsp lcs lrs => exact ⟨_, _, hx, rfl, rfl, rfl⟩
/-! #### == of boxes: each is equal to itself -/
def DIdt : Eqv := fun x y _ => ∃ a, x = .ref a ∧ y = .ref a
theorem mon_idt : Mon DIdt := fun _ _ _ _ _ d => d
theorem eqG_idt {X : Cx} : EqG X 0 DIdt := by
  intro A pins s σ H x y u v sb I rx ry d
  obtain ⟨a, rfl, rfl⟩ := d
  cases rx
  cases ry
  exact SeqAt.EqAt.same (A := A) (s := s) (.ref a) X.prog X.w X.xe _ ⟨rfl, H, I, Ext.rfl'⟩
theorem op_eqIdt {X : Cx} {K : PySem.W.Frag} (h : X.K = K) {k : Nat} (hr : Room (k + 1) X.A) : OpR X (compareOp .Eq) (rEqG (DTup K DIdt)) := by
  subst h
  exact op_eqG (rcG_tup mon_idt eqG_idt) (hr.mono (by omega))
theorem idts (K : PySem.W.Frag) {H : Hp} {a b : Addr} {ks : List At} (ha : SqT K H a (refs ks)) (hb : SqT K H b (refs ks)) : DTup K DIdt (.ref a) (.ref b) H :=
  ⟨a, b, _, _, rfl, rfl, ha, hb, rfl, fun i x y e1 e2 => by
    rw [e1] at e2
    cases e2
    unfold refs at e1
    obtain ⟨k, _, rfl⟩ := of_map e1
    exact ⟨_, rfl, rfl⟩⟩
def sp_Box_eq (bc : Kd → Addr) (S : Addr) (K : PySem.W.Frag) : Sp := fun vs H Q _ => ∃ t : At, vs = [.ref t.x, .ref t.x] ∧ BoxAt bc S K H t ∧ t.own.clean ∧ ∀ H', Same H H' → Q (.bl true) H'
def DBox (bc : Kd → Addr) (S : Addr) (K : PySem.W.Frag) : Eqv := fun x y H => ∃ t : At, x = .ref t.x ∧ y = .ref t.x ∧ BoxAt bc S K H t ∧ t.own.clean
theorem op_eqBox {X : Cx} {K : PySem.W.Frag} (h : X.K = K) {n : Nat} {bc : Kd → Addr} {S f : Addr} {fd : FuncData} {ps : List Str} (F : FnOk X.prog X.w K X.mg X.base CX0 n f fd ps (sp_Box_eq bc S K))
    (hs : ∀ kd, PySem.W.findIn K (.ref (bc kd)) "__eq__" = some (some (.ref f))) (hf : PySem.W.isFn K (.ref f) = true) (hb : Binds K fd ps []) (hx : Passes CX0 X E0) (hr : Room n X.A) : OpR X (compareOp .Eq) (rEqG (DBox bc S K)) := by
  subst h
  refine op_eqG (n := n) (fun A pins s σ H x y u v sb I rx ry d => ?_) hr
  obtain ⟨t, rfl, rfl, bt, ct⟩ := d
  obtain ⟨dx, fs, hx', _⟩ := bt.meth
  have F2 : FnOk X.prog X.w X.K X.mg X.base CX0 n f fd ps (spEq fun a b H => ∃ t : At, a = t.x ∧ b = t.x ∧ BoxAt bc S X.K H t ∧ t.own.clean) := F.imp fun vs H Q E ⟨a, b, e, ⟨t, e1, e2, bt, ct⟩, q⟩ => ⟨t, by rw [e, e1, e2], bt, ct, fun H' s => q H' s⟩
  exact rcG_ins F2 (hs t.own.kd) hf hb hx A pins s σ H _ _ u v sb I rx ry ⟨t.x, t.x, dx, dx, fs, fs, rfl, rfl, hx', hx', t, rfl, rfl, bt, ct⟩
/-! #### fields and values, pair by pair -/
def OwnP (H : Hp) (xs vs : List V) (o : Own) : Prop := xs.length = (pairsO o).length ∧ vs.length = (pairsO o).length ∧ ∀ (i : Nat) (x v : V) (q : String × Ov), xs[i]? = some x → vs[i]? = some v → (pairsO o)[i]? = some q → ∃ a, x = .ref a ∧ H a = some (.tup [sX q.1, v]) ∧ OvL H v q.2
def packs4 : List String := ["start", "end", "middle", "between"]
def OwnGood (n : Nat) : Own → Prop
  | .words t => t.length ≤ 10000 ∧ ∀ c ∈ t, c < 127
  | .picture a d => 1 ≤ a ∧ 1 ≤ d
  | .row _ gap lane pack stands => 0 ≤ gap ∧ 0 ≤ lane ∧ pack ∈ packs4 ∧ stands ∈ stands5
  | .pile gap pack stands => 0 ≤ gap ∧ pack ∈ packs4 ∧ stands ∈ stands5
  | .grid sp cs rs gap lane stands => sp.length = n ∧ stB cs.length rs.length [] (sp.map spO) = true ∧ (∀ t ∈ cs, t.ok) ∧ cs ≠ [] ∧ cs.length ≤ 1000 ∧ (∀ t ∈ rs, t.ok) ∧ rs ≠ [] ∧ rs.length ≤ 1000 ∧ 0 ≤ gap ∧ 0 ≤ lane ∧ stands ∈ stands5
theorem OwnGood.clean {n : Nat} {o : Own} (h : OwnGood n o) : o.clean := by
  intro p m
  cases o with
  | words t => rw [List.mem_singleton.mp m]; exact h.2
  | picture a d =>
    simp only [pairsO, List.mem_cons, List.not_mem_nil, or_false] at m
    rcases m with rfl | rfl <;> exact True.intro
  | row a b c d e =>
    simp only [pairsO, List.mem_cons, List.not_mem_nil, or_false] at m
    rcases m with rfl | rfl | rfl | rfl | rfl <;> exact True.intro
  | pile a b c =>
    simp only [pairsO, List.mem_cons, List.not_mem_nil, or_false] at m
    rcases m with rfl | rfl | rfl <;> exact True.intro
  | grid a b c d e f =>
    simp only [pairsO, List.mem_cons, List.not_mem_nil, or_false] at m
    rcases m with rfl | rfl | rfl | rfl | rfl | rfl <;> exact True.intro
theorem OwnP.same {H H' : Hp} {xs vs : List V} {o : Own} (h : OwnP H xs vs o) (s : Same H H') : OwnP H' xs vs o := ⟨h.1, h.2.1, fun i x v q a b c => let ⟨r, e, g, w⟩ := h.2.2 i x v q a b c; ⟨r, e, s _ _ g, w.same s⟩⟩
theorem OwnP.ofs {H : Hp} : ∀ {xs vs : List V} {ps : List (String × Ov)}, xs.length = ps.length → vs.length = ps.length → (∀ (i : Nat) (x v : V) (q : String × Ov), xs[i]? = some x → vs[i]? = some v → ps[i]? = some q → ∃ a, x = .ref a ∧ H a = some (.tup [sX q.1, v]) ∧ OvL H v q.2) → ∀ {o : Own}, pairsO o = ps → OwnP H xs vs o := fun h1 h2 h3 o e => by subst e; exact ⟨h1, h2, h3⟩
/-- spots one beside the other -/
theorem line_ok {c deep : Int} {n : Nat} {f : Nat → Int} (hc : (n : Int) ≤ c) (hf : ∀ i, i < n → 0 ≤ f i ∧ f i < deep) : stB c deep [] (((List.range n).map fun i : Nat => (((i : Int), f i, 1, 1) : Int × Int × Int × Int)).map spO) = true := by
  rw [List.map_map]
  refine stB_of (fun i hi => ?_) (fun i j hij hj => ?_)
  · obtain ⟨h1, h2⟩ := hf i hi
    show (strchB (.int (i : Int)) (.int 1) c && strchB (.int (f i)) (.int 1) deep) = true
    simp only [strchB, Bool.and_eq_true, decide_eq_true_eq]
    omega
  · show apartI _ _ _ _ _ _ _ _ = true
    unfold apartI
    simp only [Bool.or_eq_true, decide_eq_true_eq]
    omega
/-! #### fields and values: what the values are -/
theorem pairsO_le (o : Own) : 1 ≤ (pairsO o).length ∧ (pairsO o).length ≤ 6 := by cases o <;> exact ⟨Nat.le_of_ble_eq_true rfl, Nat.le_of_ble_eq_true rfl⟩
theorem range_getD {us : List V} {n : Nat} (h : n = us.length) : ((List.range n).map fun i => us.getD i V.non) = us := by
  subst h
  refine List.ext_getElem? fun i => ?_
  rw [List.getElem?_map]
  by_cases hi : i < us.length
  · rw [List.getElem?_range hi, List.getElem?_eq_getElem hi, Option.map_some, List.getD_eq_getElem?_getD, List.getElem?_eq_getElem hi]; rfl
  · rw [List.getElem?_eq_none (by rw [List.length_range]; omega), List.getElem?_eq_none (by omega)]; rfl
section
variable {H H' : Hp} {xs vs : List V} {o : Own}
theorem OwnP.at (h : OwnP H xs vs o) {i : Nat} {x : V} (e : xs[i]? = some x) : ∃ (a : Addr) (q : String × Ov), x = .ref a ∧ (pairsO o)[i]? = some q ∧ vs[i]? = some (vs.getD i .non) ∧ H a = some (.tup [sX q.1, vs.getD i .non]) ∧ OvL H (vs.getD i .non) q.2 := by
  have hi := (List.getElem?_eq_some_iff.mp e).1
  have h2 : i < (pairsO o).length := by rw [← h.1]; exact hi
  have h3 : i < vs.length := by rw [h.2.1]; exact h2
  have ev : vs[i]? = some (vs.getD i .non) := by rw [List.getD_eq_getElem?_getD, List.getElem?_eq_getElem h3]; rfl
  obtain ⟨a, e1, g, w⟩ := h.2.2 i x _ (pairsO o)[i] e ev (List.getElem?_eq_getElem h2)
  exact ⟨a, _, e1, List.getElem?_eq_getElem h2, ev, g, w⟩
theorem OwnP.val (h : OwnP H xs vs o) {i : Nat} {v : V} {q : String × Ov} (e : vs[i]? = some v) (e2 : (pairsO o)[i]? = some q) : OvL H v q.2 := by
  have hi : i < xs.length := by rw [h.1]; exact (List.getElem?_eq_some_iff.mp e2).1
  obtain ⟨a, _, _, w⟩ := h.2.2 i _ v q (List.getElem?_eq_getElem hi) e e2
  exact w
end
theorem OwnP.words {H : Hp} {xs vs : List V} {t : List Nat} (h : OwnP H xs vs (.words t)) : vs = [.str (sO t)] := by
  match vs, h.2.1, h with
  | [v], _, h => exact congrArg (· :: []) (h.val (i := 0) rfl rfl)
theorem OwnP.picture {H : Hp} {xs vs : List V} {a d : Int} (h : OwnP H xs vs (.picture a d)) : vs = [.int a, .int d] := by
  match vs, h.2.1, h with
  | [v, w], _, h =>
    have e1 : v = .int a := h.val (i := 0) rfl rfl
    have e2 : w = .int d := h.val (i := 1) rfl rfl
    rw [e1, e2]
theorem OwnP.row {H : Hp} {xs vs : List V} {turn : Bool} {gap lane : Int} {pack stands : String} (h : OwnP H xs vs (.row turn gap lane pack stands)) : vs = [.bl turn, .int gap, .int lane, sX pack, sX stands] := by
  match vs, h.2.1, h with
  | [a, b, c, d, e], _, h =>
    have e1 : a = .bl turn := h.val (i := 0) rfl rfl
    have e2 : b = .int gap := h.val (i := 1) rfl rfl
    have e3 : c = .int lane := h.val (i := 2) rfl rfl
    have e4 : d = sX pack := h.val (i := 3) rfl rfl
    have e5 : e = sX stands := h.val (i := 4) rfl rfl
    rw [e1, e2, e3, e4, e5]
theorem OwnP.pile {H : Hp} {xs vs : List V} {gap : Int} {pack stands : String} (h : OwnP H xs vs (.pile gap pack stands)) : vs = [.int gap, sX pack, sX stands] := by
  match vs, h.2.1, h with
  | [b, d, e], _, h =>
    have e2 : b = .int gap := h.val (i := 0) rfl rfl
    have e4 : d = sX pack := h.val (i := 1) rfl rfl
    have e5 : e = sX stands := h.val (i := 2) rfl rfl
    rw [e2, e4, e5]
theorem OwnP.grid {H : Hp} {xs vs : List V} {sp : List (Int × Int × Int × Int)} {cs rs : List Tk} {gap lane : Int} {stands : String} (h : OwnP H xs vs (.grid sp cs rs gap lane stands)) : ∃ (p q r : Addr) (us ws zs : List V), vs = [.ref p, .ref q, .ref r, .int gap, .int lane, sX stands] ∧
    H p = some (.lst us) ∧ SpsAt H us sp ∧ H q = some (.lst ws) ∧ TksAt H ws cs ∧ H r = some (.lst zs) ∧ TksAt H zs rs := by
  match vs, h.2.1, h with
  | [a, b, c, d, e, f], _, h =>
    obtain ⟨p, us, e1, g1, w1⟩ := h.val (i := 0) (q := ("spots", .sps sp)) rfl rfl
    obtain ⟨q, ws, e2, g2, w2⟩ := h.val (i := 1) (q := ("columns", .tks cs)) rfl rfl
    obtain ⟨r, zs, e3, g3, w3⟩ := h.val (i := 2) (q := ("rows", .tks rs)) rfl rfl
    have e4 : d = .int gap := h.val (i := 3) rfl rfl
    have e5 : e = .int lane := h.val (i := 4) rfl rfl
    have e6 : f = sX stands := h.val (i := 5) rfl rfl
    rw [e1, e2, e3, e4, e5, e6]
    exact ⟨p, q, r, us, ws, zs, rfl, g1, w1, g2, w2, g3, w3⟩
/-! #### told and due alike: lists are told as tuples -/
def FlA (v : V) : Prop := (∃ i, v = .int i) ∨ (∃ s, v = .str s) ∨ ∃ b, v = .bl b
def AlkO (H : Hp) : Nat → V → V → Prop
  | 0, _, _ => False
  | n + 1, u, v => (u = v ∧ FlA v) ∨ ∃ (a b : Addr) (xs ys : List V), u = .ref a ∧ v = .ref b ∧ H a = some (.tup xs) ∧ (H b = some (.tup ys) ∨ H b = some (.lst ys)) ∧ xs.length = ys.length ∧ xs.length ≤ 1000 ∧ ∀ (i : Nat) (x y : V), xs[i]? = some x → ys[i]? = some y → AlkO H n x y
theorem AlkO.same {H H' : Hp} (s : Same H H') : ∀ {n : Nat} {u v : V}, AlkO H n u v → AlkO H' n u v
  | 0, _, _, h => h
  | n + 1, u, v, h => by
    rcases h with h | ⟨a, b, xs, ys, e1, e2, h1, h2, h3, h4, h5⟩
    · exact .inl h
    · exact .inr ⟨a, b, xs, ys, e1, e2, s _ _ h1, h2.imp (s _ _) (s _ _), h3, h4, fun i x y p q => (h5 i x y p q).same s⟩
theorem alk_tk {H : Hp} {u v : V} {t : Tk} (h1 : TkAt H u t) (h2 : TkAt H v t) : AlkO H 2 u v := by
  cases t with
  | cells n =>
    obtain rfl : u = .int n := h1
    obtain rfl : v = .int n := h2
    exact .inl ⟨rfl, .inl ⟨_, rfl⟩⟩
  | fit =>
    obtain rfl : u = sX "fit" := h1
    obtain rfl : v = sX "fit" := h2
    exact .inl ⟨rfl, .inr (.inl ⟨_, rfl⟩)⟩
  | share k =>
    obtain ⟨a, rfl, g1⟩ := h1
    obtain ⟨b, rfl, g2⟩ := h2
    refine .inr ⟨a, b, _, _, rfl, rfl, g1, .inl g2, rfl, Nat.le_of_ble_eq_true rfl, fun i x y p q => ?_⟩
    match i, p, q with
    | 0, p, q => cases p; cases q; exact .inl ⟨rfl, .inr (.inl ⟨_, rfl⟩)⟩
    | 1, p, q => cases p; cases q; exact .inl ⟨rfl, .inl ⟨_, rfl⟩⟩
    | n + 2, p, q => cases p
theorem alk_sp {H : Hp} {u v : V} {q : Int × Int × Int × Int} (h1 : SpAt H u q) (h2 : SpAt H v q) : AlkO H 2 u v := by
  obtain ⟨a, rfl, g1⟩ := h1
  obtain ⟨b, rfl, g2⟩ := h2
  refine .inr ⟨a, b, _, _, rfl, rfl, g1, .inl g2, rfl, Nat.le_of_ble_eq_true rfl, fun i x y p q => ?_⟩
  match i, p, q with
  | 0, p, q => cases p; cases q; exact .inl ⟨rfl, .inl ⟨_, rfl⟩⟩
  | 1, p, q => cases p; cases q; exact .inl ⟨rfl, .inl ⟨_, rfl⟩⟩
  | 2, p, q => cases p; cases q; exact .inl ⟨rfl, .inl ⟨_, rfl⟩⟩
  | 3, p, q => cases p; cases q; exact .inl ⟨rfl, .inl ⟨_, rfl⟩⟩
  | n + 4, p, q => cases p
def Ov.few : Ov → Prop
  | .tks ts => ts.length ≤ 1000
  | .sps qs => qs.length ≤ 1000
  | _ => True
theorem alk_ov {H : Hp} {u v : V} {o : Ov} (h1 : OvT H u o) (h2 : OvL H v o) (f : o.few) : AlkO H 3 u v := by
  cases o with
  | tx l =>
    obtain rfl : u = _ := h1
    obtain rfl : v = _ := h2
    exact .inl ⟨rfl, .inr (.inl ⟨_, rfl⟩)⟩
  | n i =>
    obtain rfl : u = _ := h1
    obtain rfl : v = _ := h2
    exact .inl ⟨rfl, .inl ⟨_, rfl⟩⟩
  | b c =>
    obtain rfl : u = _ := h1
    obtain rfl : v = _ := h2
    exact .inl ⟨rfl, .inr (.inr ⟨_, rfl⟩)⟩
  | w s =>
    obtain rfl : u = _ := h1
    obtain rfl : v = _ := h2
    exact .inl ⟨rfl, .inr (.inl ⟨_, rfl⟩)⟩
  | tks ts =>
    obtain ⟨a, us, rfl, g1, t1⟩ := h1
    obtain ⟨b, ws, rfl, g2, t2⟩ := h2
    have f : ts.length ≤ 1000 := f
    refine .inr ⟨a, b, us, ws, rfl, rfl, g1, .inr g2, by rw [t1.1, t2.1], by rw [t1.1]; exact f, fun i x y p q => ?_⟩
    have hi : i < ts.length := by rw [← t1.1]; exact (List.getElem?_eq_some_iff.mp p).1
    exact alk_tk (t1.2 i x _ p (List.getElem?_eq_getElem hi)) (t2.2 i y _ q (List.getElem?_eq_getElem hi))
  | sps qs =>
    obtain ⟨a, us, rfl, g1, t1⟩ := h1
    obtain ⟨b, ws, rfl, g2, t2⟩ := h2
    have f : qs.length ≤ 1000 := f
    refine .inr ⟨a, b, us, ws, rfl, rfl, g1, .inr g2, by rw [t1.1, t2.1], by rw [t1.1]; exact f, fun i x y p q => ?_⟩
    have hi : i < qs.length := by rw [← t1.1]; exact (List.getElem?_eq_some_iff.mp p).1
    exact alk_sp (t1.2 i x _ p (List.getElem?_eq_getElem hi)) (t2.2 i y _ q (List.getElem?_eq_getElem hi))
theorem is_listtup {X : Cx} : CallR X (.builtin "isinstance") (rIs2 "list" "tuple" fun _ t => decide (t = "list") || decide (t = "tuple")) := call_isTy2 _ _ (fun _ t => decide (t = "list")) (fun _ t => decide (t = "tuple")) (fun _ _ _ h => h.kl) (fun _ _ _ h => h.kt)
/-- a box's field is what it has of its own -/
theorem BoxAt.few_ov {bc : Kd → Addr} {S : Addr} {K : PySem.W.Frag} {H : Hp} {t : At} (h : BoxAt bc S K H t) {i : Nat} {q : String × Ov} (e : (pairsO t.own)[i]? = some q) : q.2.few := by
  cases h with
  | words => match i, e with
    | 0, e => cases e; exact True.intro
    | n + 1, e => cases e
  | picture => match i, e with
    | 0, e => cases e; exact True.intro
    | 1, e => cases e; exact True.intro
    | n + 2, e => cases e
  | row => match i, e with
    | 0, e => cases e; exact True.intro
    | 1, e => cases e; exact True.intro
    | 2, e => cases e; exact True.intro
    | 3, e => cases e; exact True.intro
    | 4, e => cases e; exact True.intro
    | n + 5, e => cases e
  | pile => match i, e with
    | 0, e => cases e; exact True.intro
    | 1, e => cases e; exact True.intro
    | 2, e => cases e; exact True.intro
    | n + 3, e => cases e
  | grid hx hy ok hn g0 l0 hb lk hk hc tc oc nc hr tr or nr hs ts lsp lcs lrs => match i, e with
    | 0, e => cases e; exact (show _ ≤ 1000 from by rw [lsp]; exact lk)
    | 1, e => cases e; exact lcs
    | 2, e => cases e; exact lrs
    | 3, e => cases e; exact True.intro
    | 4, e => cases e; exact True.intro
    | 5, e => cases e; exact True.intro
    | n + 6, e => cases e
theorem BoxAt.inner3 {bc : Kd → Addr} {S : Addr} {K : PySem.W.Frag} {H : Hp} {b : At} (h : BoxAt bc S K H b) (z1 : b.own.kd ≠ .words) (z2 : b.own.kd ≠ .picture) : ∃ (dx q : Addr) (fs : List (Str × V)), H b.x = some (.ins (bc b.own.kd) dx fs) ∧ fs.lookup (Str.ofString "boxes") = some (.ref q) ∧ H q = some (.tup (refs b.kids)) := by
  cases h with
  | words hx hy ok hn ht => exact absurd rfl z1
  | picture hx hy ok hn ha hd => exact absurd rfl z2
  | row hx hy ok hn g0 l0 hb lk hk => exact ⟨_, _, _, hx, rfl, hb⟩
  | pile hx hy ok hn g0 hb lk hk => exact ⟨_, _, _, hx, rfl, hb⟩
  | grid hx hy ok hn g0 l0 hb lk hk hc tc oc nc hr tr or nr hs ts lsp lcs lrs => exact ⟨_, _, _, hx, rfl, hb⟩
/-- a value is flat, or a list -/
theorem OvL.two {H : Hp} {v : V} {o : Ov} (h : OvL H v o) : (∃ t : String, (∀ H', Ty7 H' v t) ∧ decide (t = "list") = false ∧ ∀ a, v ≠ .ref a) ∨ ∃ (p : Addr) (us : List V), v = .ref p ∧ H p = some (.lst us) ∧ (o.few → us.length ≤ 1000) ∧ ∀ p' H', Same H H' → H' p' = some (.lst us) → OvL H' (.ref p') o := by
  cases o with
  | tx l => obtain rfl : v = _ := h; exact .inl ⟨_, fun _ => .str _, by decide +kernel, fun a e => by cases e⟩
  | n i => obtain rfl : v = _ := h; exact .inl ⟨_, fun _ => .int _, by decide +kernel, fun a e => by cases e⟩
  | b c => obtain rfl : v = _ := h; exact .inl ⟨_, fun _ => .bl _, by decide +kernel, fun a e => by cases e⟩
  | w s => obtain rfl : v = _ := h; exact .inl ⟨_, fun _ => .str _, by decide +kernel, fun a e => by cases e⟩
  | tks ts => obtain ⟨p, us, rfl, g, t⟩ := h; exact .inr ⟨p, us, rfl, g, fun f => by rw [t.1]; exact f, fun p' H' s g' => ⟨p', us, rfl, g', (Same.ks s).tks t⟩⟩
  | sps qs => obtain ⟨p, us, rfl, g, t⟩ := h; exact .inr ⟨p, us, rfl, g, fun f => by rw [t.1]; exact f, fun p' H' s g' => ⟨p', us, rfl, g', (Same.ks s).sps t⟩⟩
/-- a list is changed that isn't it; other things stay -/
theorem OvL.butU {H H' : Hp} {v : V} {o : Ov} (h : OvL H v o) (k : KeepS H H') (b : ∀ p us, v = .ref p → H p = some (.lst us) → H' p = some (.lst us)) : OvL H' v o := by
  cases o with
  | tx | n | b | w => exact h
  | tks ts => obtain ⟨p, us, rfl, g, t⟩ := h; exact ⟨p, us, rfl, b _ _ rfl g, k.tks t⟩
  | sps qs => obtain ⟨p, us, rfl, g, t⟩ := h; exact ⟨p, us, rfl, b _ _ rfl g, k.sps t⟩
theorem OwnGood.few {n : Nat} {o : Own} (h : OwnGood n o) (hn : n ≤ 1000) {i : Nat} {q : String × Ov} (e : (pairsO o)[i]? = some q) : q.2.few := by
  cases o with
  | words => match i, e with
    | 0, e => cases e; exact True.intro
    | n + 1, e => cases e
  | picture => match i, e with
    | 0, e => cases e; exact True.intro
    | 1, e => cases e; exact True.intro
    | n + 2, e => cases e
  | row => match i, e with
    | 0, e => cases e; exact True.intro
    | 1, e => cases e; exact True.intro
    | 2, e => cases e; exact True.intro
    | 3, e => cases e; exact True.intro
    | 4, e => cases e; exact True.intro
    | n + 5, e => cases e
  | pile => match i, e with
    | 0, e => cases e; exact True.intro
    | 1, e => cases e; exact True.intro
    | 2, e => cases e; exact True.intro
    | n + 3, e => cases e
  | grid => match i, e with
    | 0, e => cases e; exact (show _ ≤ 1000 from by rw [h.1]; exact hn)
    | 1, e => cases e; exact h.2.2.2.2.1
    | 2, e => cases e; exact h.2.2.2.2.2.2.2.1
    | 3, e => cases e; exact True.intro
    | 4, e => cases e; exact True.intro
    | 5, e => cases e; exact True.intro
    | n + 6, e => cases e
theorem usual_kd (o : Own) : (usualO o).kd = o.kd := by cases o <;> rfl
theorem usual_clean {o : Own} (h : o.clean) : (usualO o).clean := by
  intro p m
  cases o with
  | words t => exact h p m
  | picture a d => exact h p m
  | row a b c d e =>
    simp only [usualO, pairsO, List.mem_cons, List.not_mem_nil, or_false] at m
    rcases m with rfl | rfl | rfl | rfl | rfl <;> exact True.intro
  | pile a b c =>
    simp only [usualO, pairsO, List.mem_cons, List.not_mem_nil, or_false] at m
    rcases m with rfl | rfl | rfl <;> exact True.intro
  | grid a b c d e f =>
    simp only [usualO, pairsO, List.mem_cons, List.not_mem_nil, or_false] at m
    rcases m with rfl | rfl | rfl | rfl | rfl | rfl <;> exact True.intro
theorem OwnP.butK {H H' : Hp} {xs us : List V} {o : Own} (h : OwnP H xs us o) (k : KeepS H H') (b : ∀ p l, V.ref p ∈ us → H p = some (.lst l) → H' p = some (.lst l)) : OwnP H' xs us o := ⟨h.1, h.2.1, fun i x v q e1 e2 e3 => let ⟨r, e, g1, w⟩ := h.2.2 i x v q e1 e2 e3; ⟨r, e, k.tup g1, w.butU k fun p l ev g => b p l (ev ▸ List.mem_of_getElem? e2) g⟩⟩
theorem usual_st {o : Own} {x : Addr} {nm : List Nat} {st : List V} {ks : List At} : (At.mk x nm st o ks).own = o := rfl
end My

/-! ### trees told by plain lists -/
namespace My
open PySem PySem.Spec PyProof.Rows L2
/-! #### letters of a number -/
def letL (m : Nat) : List Nat := if h : m = 0 then [] else letN (((m - 1) % 26 : Nat) : Int) :: letL ((m - 1) / 26)
  termination_by m
  decreasing_by omega
theorem letL_pos {m : Nat} (h : m ≠ 0) : letL m = letN (((m - 1) % 26 : Nat) : Int) :: letL ((m - 1) / 26) := by
  rw [letL, dif_neg h]
theorem letL_zero : letL 0 = [] := by rw [letL, dif_pos rfl]
theorem letL_inj : ∀ {m k : Nat}, letL m = letL k → m = k := by
  intro m
  induction m using Nat.strongRecOn with
  | _ m ih =>
    intro k h
    by_cases hm : m = 0
    · by_cases hk : k = 0
      · omega
      · rw [hm, letL_zero, letL_pos hk] at h
        cases h
    · by_cases hk : k = 0
      · rw [hk, letL_zero, letL_pos hm] at h
        cases h
      · rw [letL_pos hm, letL_pos hk] at h
        injection h with h1 h2
        have e1 := letN_inj (by omega) (by omega) (by omega) (by omega) h1
        have e2 := ih _ (by omega) h2
        omega
theorem letL_mem : ∀ (m : Nat), ∀ c ∈ letL m, c ∈ lettersL := by
  intro m
  induction m using Nat.strongRecOn with
  | _ m ih =>
    intro c hc
    by_cases hm : m = 0
    · rw [hm, letL_zero] at hc; cases hc
    · rw [letL_pos hm] at hc
      rcases List.mem_cons.mp hc with rfl | hc
      · exact letN_mem (by omega) (by omega)
      · exact ih _ (by omega) c hc
/-- how great a number of so many letters is at most -/
def topL : Nat → Nat
  | 0 => 0
  | k + 1 => 26 * topL k + 26
theorem letL_len : ∀ (k m : Nat), m ≤ topL k → (letL m).length ≤ k := by
  intro k
  induction k with
  | zero => intro m h; rw [show m = 0 from Nat.le_zero.mp h, letL_zero]; exact Nat.le_refl _
  | succ k ih =>
    intro m h
    by_cases hm : m = 0
    · rw [hm, letL_zero]; exact Nat.zero_le _
    · rw [letL_pos hm]
      have h : m ≤ 26 * topL k + 26 := h
      exact Nat.succ_le_succ (ih _ (by omega))
theorem letL_ok {n : Nat} (h : n + 1 ≤ topL 8) : NameOk (letL (n + 1)) := ⟨by rw [letL_pos (by omega)]; exact Nat.succ_le_succ (Nat.zero_le _), letL_len 8 _ h, letL_mem _⟩
/-- how many of the names are letters of a number from n on -/
noncomputable def isA (n : Nat) (l : List Nat) : Bool := @decide (∃ k, n ≤ k ∧ letL (k + 1) = l) (Classical.propDecidable _)
theorem isA_iff {n : Nat} {l : List Nat} : isA n l = true ↔ ∃ k, n ≤ k ∧ letL (k + 1) = l := @decide_eq_true_iff _ (Classical.propDecidable _)
noncomputable def aheadN (ls : List (List Nat)) (n : Nat) : Nat := ls.countP (isA n)
theorem isA_mono {n : Nat} {l : List Nat} (h : isA (n + 1) l = true) : isA n l = true := by
  obtain ⟨k, h1, h2⟩ := isA_iff.mp h
  exact isA_iff.mpr ⟨k, by omega, h2⟩
theorem ahead_le (ls : List (List Nat)) (n : Nat) : aheadN ls (n + 1) ≤ aheadN ls n := List.countP_mono_left fun l _ h => isA_mono h
theorem ahead_lt {n : Nat} : ∀ {ls : List (List Nat)}, letL (n + 1) ∈ ls → aheadN ls (n + 1) < aheadN ls n
  | l :: ls, m => by
    have hle := ahead_le ls n
    unfold aheadN at hle ⊢
    rw [List.countP_cons, List.countP_cons]
    rcases List.mem_cons.mp m with e | m
    · have h1 : ¬ (isA (n + 1) l = true) := fun h => by
        obtain ⟨k, h1, h2⟩ := isA_iff.mp h
        have := letL_inj (h2.trans e.symm)
        omega
      rw [if_neg h1, if_pos (isA_iff.mpr ⟨n, Nat.le_refl _, e⟩)]
      omega
    · have ih := ahead_lt m
      unfold aheadN at ih
      by_cases h1 : isA (n + 1) l = true
      · rw [if_pos h1, if_pos (isA_mono h1)]
        omega
      · rw [if_neg h1]
        split <;> omega
theorem ahead_len (ls : List (List Nat)) (n : Nat) : aheadN ls n ≤ ls.length := List.countP_le_length
/-- the names drawn so far -/
def knD (ls : List (List Nat)) : List (Key × V) := ls.map fun l => (keyS l, .bl true)
theorem knD_val (l : List Nat) : ∀ ls : List (List Nat), valV (knD ls) (keyS l) = if l ∈ ls then some (.bl true) else none
  | [] => rfl
  | a :: ls => by
    have ih := knD_val l ls
    unfold knD at ih ⊢
    rw [List.map_cons]
    unfold valV at ih ⊢
    rw [List.find?_cons]
    by_cases e : a = l
    · subst e
      simp
    · have hk : keyS a ≠ keyS l := fun z => e (keyS_inj z)
      simp only [decide_eq_false hk]
      rw [ih]
      by_cases m : l ∈ ls
      · rw [if_pos m, if_pos (List.mem_cons_of_mem _ m)]
      · rw [if_neg m, if_neg fun z => (List.mem_cons.mp z).elim (fun z => e z.symm) m]
theorem knD_put {l : List Nat} {ls : List (List Nat)} (h : l ∉ ls) : putK (knD ls) (keyS l) (.bl true) = knD (ls ++ [l]) := by
  have hn : ¬ ((knD ls).any fun kv => decide (kv.1 = keyS l)) = true := fun z => by
    obtain ⟨kv, m, e⟩ := List.any_eq_true.mp z
    obtain ⟨a, ma, rfl⟩ := List.mem_map.mp m
    exact h (keyS_inj (of_decide_eq_true e) ▸ ma)
  unfold putK
  rw [if_neg hn]
  unfold knD
  rw [List.map_append]
  rfl
/-! #### plain boxes -/
structure Nd where
  b : Addr
  v : Addr
  o : Addr
  i : Addr
  cs : List Addr
  nm : List Nat
  st : List V
  ow : Own
def Nd.as (n : Nd) : List Addr := n.b :: n.v :: n.o :: n.i :: n.cs
def OwnN (H : Hp) (o : Addr) (cs : List Addr) : Own → Prop
  | .words t => cs = [] ∧ H o = some (.lst [.str (sO t)])
  | .picture a d => cs = [] ∧ H o = some (.lst [.int a, .int d])
  | .row t g l p s => cs = [] ∧ H o = some (.lst [.bl t, .int g, .int l, sX p, sX s])
  | .pile g p s => cs = [] ∧ H o = some (.lst [.int g, sX p, sX s])
  | .grid sp ts us g l s => ∃ (c t u : Addr) (ws xs ys : List V), cs = [c, t, u] ∧ H o = some (.lst [.ref c, .ref t, .ref u, .int g, .int l, sX s]) ∧ H c = some (.lst ws) ∧ SpsAt H ws sp ∧ H t = some (.lst xs) ∧ TksAt H xs ts ∧ H u = some (.lst ys) ∧ TksAt H ys us
structure NdAt (H : Hp) (n : Nd) (ks : List Addr) : Prop where
  hb : H n.b = some (.lst [sX (kdW n.ow.kd), .str (sO n.nm), .ref n.v, .ref n.o, .ref n.i])
  hv : H n.v = some (.lst n.st)
  ho : OwnN H n.o n.cs n.ow
  hi : H n.i = some (.lst (ks.map V.ref))
theorem OwnN.mv {H H' : Hp} {o : Addr} {cs : List Addr} {w : Own} (h : OwnN H o cs w) (k : KeepS H H') (e : ∀ a ∈ o :: cs, ∀ xs, H a = some (.lst xs) → H' a = some (.lst xs)) : OwnN H' o cs w := by
  have eo := e o List.mem_cons_self
  cases w with
  | words t => exact ⟨h.1, eo _ h.2⟩
  | picture a d => exact ⟨h.1, eo _ h.2⟩
  | row t g l p s => exact ⟨h.1, eo _ h.2⟩
  | pile g p s => exact ⟨h.1, eo _ h.2⟩
  | grid sp ts us g l s =>
    obtain ⟨c, t, u, ws, xs, ys, rfl, h1, h2, h3, h4, h5, h6, h7⟩ := h
    exact ⟨c, t, u, ws, xs, ys, rfl, eo _ h1, e c (by simp) _ h2, k.sps h3, e t (by simp) _ h4, k.tks h5, e u (by simp) _ h6, k.tks h7⟩
theorem NdAt.mv {H H' : Hp} {n : Nd} {ks : List Addr} (h : NdAt H n ks) (k : KeepS H H') (e : ∀ a ∈ n.as, ∀ xs, H a = some (.lst xs) → H' a = some (.lst xs)) : NdAt H' n ks :=
  ⟨e n.b (by simp [Nd.as]) _ h.hb, e n.v (by simp [Nd.as]) _ h.hv, h.ho.mv k fun a m => e a (by
    simp only [Nd.as, List.mem_cons] at m ⊢
    rcases m with m | m
    · exact .inr (.inr (.inl m))
    · exact .inr (.inr (.inr (.inr m)))), e n.i (by simp [Nd.as]) _ h.hi⟩
theorem NdAt.same {H H' : Hp} {n : Nd} {ks : List Addr} (h : NdAt H n ks) (s : Same H H') : NdAt H' n ks := h.mv (Same.ks s) fun a _ xs g => s _ _ g
/-- how a box may be that has none in it -/
def OwnB : Own → Prop
  | .words t => t.length ≤ 10000 ∧ ∀ c ∈ t, c < 127
  | .picture a d => 1 ≤ a ∧ 1 ≤ d
  | .row _ gap lane pack stands => 0 ≤ gap ∧ 0 ≤ lane ∧ pack ∈ packs4 ∧ stands ∈ stands5
  | .pile gap pack stands => 0 ≤ gap ∧ pack ∈ packs4 ∧ stands ∈ stands5
  | .grid sp cs rs gap lane stands => sp = [] ∧ (∀ t ∈ cs, t.ok) ∧ cs ≠ [] ∧ cs.length ≤ 3 ∧ (∀ t ∈ rs, t.ok) ∧ rs ≠ [] ∧ rs.length ≤ 3 ∧ 0 ≤ gap ∧ 0 ≤ lane ∧ stands ∈ stands5
/-- all but the things at two places stays -/
def ButK (s kn : Addr) (H H' : Hp) : Prop := ∀ a o, H a = some o → a ≠ s → a ≠ kn → H' a = some o
theorem ButK.trans {s kn : Addr} {H H1 H2 : Hp} (p : ButK s kn H H1) (q : ButK s kn H1 H2) : ButK s kn H H2 := fun a o h n m => q a o (p a o h n m) n m
theorem ButK.same {s kn : Addr} {H H1 H2 : Hp} (p : ButK s kn H H1) (q : Same H1 H2) : ButK s kn H H2 := fun a o h n m => q a o (p a o h n m)
theorem ButK.dr {s kn : Addr} {H H1 H2 : Hp} (p : ButK s kn H H1) (q : Dr s H1 H2) : ButK s kn H H2 := fun a o h n m => q.b a o n (p a o h n m)
theorem ButK.but {s kn : Addr} {H H1 H2 : Hp} (p : ButK s kn H H1) (q : But kn H1 H2) : ButK s kn H H2 := fun a o h n m => q a o m (p a o h n m)
theorem ButK.refl {s kn : Addr} {H : Hp} : ButK s kn H H := fun a o h _ _ => h
theorem ButK.of {s kn : Addr} {H H1 : Hp} (q : Dr s H H1) : ButK s kn H H1 := fun a o h n _ => q.b a o n h
theorem ButK.free {s kn : Addr} {H H1 : Hp} {a : Addr} (p : ButK s kn H H1) (f : H1 a = none) (n : a ≠ s) (m : a ≠ kn) : H a = none := by
  cases e : H a with
  | none => rfl
  | some o => rw [p a o e n m] at f; cases f
/-- the style that is told when a box is drawn -/
def st0 (r : Addr) : List V := [.non, .non, .non, .non, .non, .non, .int 0, .int 1, .ref r, .non]
theorem st0_ok {K : PySem.W.Frag} {H : Hp} {r : Addr} (g : H r = some (.tup [.int 0, .int 0, .int 0, .int 0])) : OkL K H (st0 r) := ⟨rfl, fun i v e => match i, e with
    | 0, e => by cases e; exact .non
    | 1, e => by cases e; exact .non
    | 2, e => by cases e; exact .inl rfl
    | 3, e => by cases e; exact .inl rfl
    | 4, e => by cases e; exact .inl rfl
    | 5, e => by cases e; exact .inl rfl
    | 6, e => by cases e; exact ⟨0, rfl⟩
    | 7, e => by cases e; exact ⟨1, rfl⟩
    | 8, e => by cases e; exact ⟨r, 0, 0, 0, 0, rfl, sqT g⟩
    | 9, e => by cases e; exact .inl rfl
    | n + 10, e => by cases e⟩
/-! #### a list == [] -/
def rEq0 (K : PySem.W.Frag) : R2 := fun x y H Q => ∃ (a b : Addr) (xs : List V), x = .ref a ∧ y = .ref b ∧ SqL K H a xs ∧ SqL K H b [] ∧ Q (.bl xs.isEmpty) H
theorem op_eq0 {X : Cx} (hu : X.A.units + 64 < cLine) : OpR X (compareOp .Eq) (rEq0 X.K) := by
  intro pins s σ H x y v u Q I rx ry h
  obtain ⟨a, b, xs, rfl, rfl, ha, hb, q⟩ := h
  cases (show u = Value.ref b from ry)
  cases (show v = Value.ref a from rx)
  obtain ⟨ws, r2, p2, _⟩ := I.list hb
  have h1 : X.A.units < cLine := by omega
  cases r2
  obtain ⟨us, r1, p1, _⟩ := I.list ha
  cases xs with
  | nil =>
    cases r1
    have k := SeqAt.RcAt.lists (e := fun _ => true) p1.isList p2.isList rfl h1 (fun j h1 h2 => absurd h1 (Nat.not_lt_zero j))
    exact k _ _ _ _ ⟨.bl true, H, I, rfl, q⟩
  | cons x xs =>
    cases r1 with
    | cons a1 b1 =>
      have k := SeqAt.RcAt.lists_lengths p1.isList p2.isList (by simp) h1
      exact k _ _ _ _ ⟨.bl false, H, I, rfl, q⟩
theorem op_eq0K {X : Cx} {K : PySem.W.Frag} (hu : X.A.units + 64 < cLine) (h : X.K = K) : OpR X (compareOp .Eq) (rEq0 K) := by subst h; exact op_eq0 hu
/-! #### spots apart -/
abbrev Q4 := Int × Int × Int × Int
def meetB (p q : Q4) : Bool := (decide (p.1 < q.1 + q.2.2.1) && decide (q.1 < p.1 + p.2.2.1)) && (decide (p.2.1 < q.2.1 + q.2.2.2) && decide (q.2.1 < p.2.1 + p.2.2.2))
theorem meet_comm (p q : Q4) : meetB p q = meetB q p := by
  unfold meetB
  rw [Bool.and_comm (decide (p.1 < _)), Bool.and_comm (decide (p.2.1 < _))]
theorem meet_apart {p q : Q4} (h : meetB p q = false) : apartI p.1 p.2.1 p.2.2.1 p.2.2.2 q.1 q.2.1 q.2.2.1 q.2.2.2 = true := by
  unfold meetB at h
  unfold apartI
  simp only [Bool.or_eq_true, decide_eq_true_eq]
  simp only [Bool.and_eq_false_iff, decide_eq_false_iff_not] at h
  omega
/-- in so many tracks -/
def InTr (c r : Int) (q : Q4) : Prop := 0 ≤ q.1 ∧ 1 ≤ q.2.2.1 ∧ q.1 + q.2.2.1 ≤ c ∧ 0 ≤ q.2.1 ∧ 1 ≤ q.2.2.2 ∧ q.2.1 + q.2.2.2 ≤ r
def SpOk (c r : Int) (sp : List Q4) : Prop := (∀ q ∈ sp, InTr c r q) ∧ sp.Pairwise fun p q => meetB p q = false
theorem SpOk.nil {c r : Int} : SpOk c r [] := ⟨(fun q m => by cases m), List.Pairwise.nil⟩
/-- put at a place -/
def putL {α : Type} (n : Nat) (x : α) (l : List α) : List α := l.take n ++ x :: l.drop n
theorem putL_perm {α : Type} (n : Nat) (x : α) (l : List α) : (putL n x l).Perm (x :: l) := by
  unfold putL
  have := List.perm_middle (a := x) (l₁ := l.take n) (l₂ := l.drop n)
  rwa [List.take_append_drop] at this
theorem putL_map {α β : Type} (f : α → β) (n : Nat) (x : α) (l : List α) : (putL n x l).map f = putL n (f x) (l.map f) := by
  unfold putL
  rw [List.map_append, List.map_cons, List.map_take, List.map_drop]
theorem putL_len {α : Type} (n : Nat) (x : α) (l : List α) : (putL n x l).length = l.length + 1 := (putL_perm n x l).length_eq
theorem putL_mem {α : Type} {n : Nat} {x y : α} {l : List α} : y ∈ putL n x l ↔ y = x ∨ y ∈ l := by
  rw [(putL_perm n x l).mem_iff, List.mem_cons]
theorem SpOk.put {c r : Int} {sp : List Q4} {q : Q4} {n : Nat} (h : SpOk c r sp) (hq : InTr c r q) (ha : ∀ p ∈ sp, meetB q p = false) : SpOk c r (putL n q sp) := by
  refine ⟨fun p m => ?_, ?_⟩
  · rcases putL_mem.mp m with rfl | m
    · exact hq
    · exact h.1 p m
  · refine ((putL_perm n q sp).pairwise_iff fun {a b} e => ?_).mpr (List.pairwise_cons.mpr ⟨ha, h.2⟩)
    rw [meet_comm]; exact e
theorem SpOk.stB {c r : Int} {sp : List Q4} (h : SpOk c r sp) : stB c r [] (sp.map spO) = true := by
  have e : sp.map spO = (List.range sp.length).map fun i => spO (sp.getD i (0, 0, 0, 0)) := by
    refine List.ext_getElem? fun i => ?_
    rw [List.getElem?_map, List.getElem?_map]
    by_cases hi : i < sp.length
    · rw [List.getElem?_range hi, List.getElem?_eq_getElem hi, Option.map_some, Option.map_some, List.getD_eq_getElem?_getD, List.getElem?_eq_getElem hi]; rfl
    · rw [List.getElem?_eq_none (by omega), List.getElem?_eq_none (by rw [List.length_range]; omega)]; rfl
  rw [e]
  refine stB_of (fun i hi => ?_) (fun i j hij hj => ?_)
  · obtain ⟨h1, h2, h3, h4, h5, h6⟩ := h.1 (sp.getD i (0, 0, 0, 0)) (by rw [List.getD_eq_getElem?_getD, List.getElem?_eq_getElem hi]; exact List.getElem_mem hi)
    show (strchB _ _ c && strchB _ _ r) = true
    simp only [strchB, Bool.and_eq_true, decide_eq_true_eq]
    omega
  · have hi : i < sp.length := by omega
    have := List.pairwise_iff_getElem.mp h.2 i j hi hj hij
    rw [List.getD_eq_getElem?_getD, List.getD_eq_getElem?_getD, List.getElem?_eq_getElem hi, List.getElem?_eq_getElem hj]
    show apartI _ _ _ _ _ _ _ _ = true
    rw [meet_comm] at this
    exact meet_apart this
theorem range_all {α β : Type} (f : α → β) (d : α) (l : List α) : ((List.range l.length).map fun i => f (l.getD i d)) = l.map f := by
  refine List.ext_getElem? fun i => ?_
  rw [List.getElem?_map, List.getElem?_map]
  by_cases hi : i < l.length
  · rw [List.getElem?_range hi, List.getElem?_eq_getElem hi, Option.map_some, Option.map_some, List.getD_eq_getElem?_getD, List.getElem?_eq_getElem hi]; rfl
  · rw [List.getElem?_eq_none (by rw [List.length_range]; omega), List.getElem?_eq_none (by omega)]; rfl
theorem meets_any (q : Q4) (sp : List Q4) : (sp.map (meetB q)).any id = sp.any (meetB q) := by rw [List.any_map]; rfl
theorem meets_none {q : Q4} {sp : List Q4} (h : sp.any (meetB q) = false) : ∀ z ∈ sp, meetB q z = false := fun z m => by
  have := List.any_eq_false.mp h z m
  simpa using this
theorem SpsAt.app {H : Hp} {ws : List V} {sp : List Q4} {v : V} {q : Q4} (h : SpsAt H ws sp) (k : SpAt H v q) : SpsAt H (ws ++ [v]) (sp ++ [q]) := ⟨by rw [List.length_append, List.length_append, h.1]; rfl, fun i x z e1 e2 => by
  by_cases hi : i < ws.length
  · rw [List.getElem?_append_left hi] at e1
    rw [List.getElem?_append_left (by rw [← h.1]; exact hi)] at e2
    exact h.2 i x z e1 e2
  · rw [List.getElem?_append_right (by omega)] at e1
    rw [List.getElem?_append_right (by rw [← h.1]; omega), ← h.1] at e2
    cases hk : i - ws.length with
    | zero => rw [hk] at e1 e2; cases e1; cases e2; exact k
    | succ m => rw [hk] at e1; cases e1⟩
/-- how a box may be that has so many in it -/
def OwnI (m : Nat) : Own → Prop
  | .words t => m = 0 ∧ t.length ≤ 10000 ∧ ∀ c ∈ t, c < 127
  | .picture a d => m = 0 ∧ 1 ≤ a ∧ 1 ≤ d
  | .row _ gap lane pack stands => 0 ≤ gap ∧ 0 ≤ lane ∧ pack ∈ packs4 ∧ stands ∈ stands5
  | .pile gap pack stands => 0 ≤ gap ∧ pack ∈ packs4 ∧ stands ∈ stands5
  | .grid sp cs rs gap lane stands => sp.length = m ∧ SpOk cs.length rs.length sp ∧ (∀ t ∈ cs, t.ok) ∧ cs ≠ [] ∧ cs.length ≤ 3 ∧ (∀ t ∈ rs, t.ok) ∧ rs ≠ [] ∧ rs.length ≤ 3 ∧ 0 ≤ gap ∧ 0 ≤ lane ∧ stands ∈ stands5
theorem OwnB.own {o : Own} (h : OwnB o) : OwnI 0 o := by
  cases o with
  | words t => exact ⟨rfl, h⟩
  | picture a d => exact ⟨rfl, h⟩
  | row => exact h
  | pile => exact h
  | grid sp cs rs g l s =>
    obtain ⟨rfl, h⟩ := h
    exact ⟨rfl, .nil, h⟩
theorem OwnI.good {m : Nat} {o : Own} (h : OwnI m o) : OwnGood m o := by
  cases o with
  | words t => exact h.2
  | picture a d => exact h.2
  | row => exact h
  | pile => exact h
  | grid sp cs rs g l s =>
    obtain ⟨h1, h2, h3, h4, h5, h6, h7, h8, h9, h10, h11⟩ := h
    exact ⟨h1, h2.stB, h3, h4, by omega, h6, h7, by omega, h9, h10, h11⟩
theorem OwnI.leaf {m : Nat} {o : Own} (h : OwnI m o) (k : o.kd = .words ∨ o.kd = .picture) : m = 0 := by
  cases o with
  | words t => exact h.1
  | picture a d => exact h.1
  | row => rcases k with k | k <;> cases k
  | pile => rcases k with k | k <;> cases k
  | grid => rcases k with k | k <;> cases k
theorem SpsAt.put {H : Hp} {ws : List V} {sp : List Q4} {v : V} {q : Q4} {n : Nat} (h : SpsAt H ws sp) (k : SpAt H v q) (hn : n ≤ ws.length) : SpsAt H (putL n v ws) (putL n q sp) := ⟨by rw [putL_len, putL_len, h.1], fun i x z e1 e2 => by
  unfold putL at e1 e2
  have l1 : (ws.take n).length = n := by rw [List.length_take]; omega
  have l2 : (sp.take n).length = n := by rw [List.length_take]; have := h.1; omega
  by_cases hi : i < n
  · rw [List.getElem?_append_left (by omega), List.getElem?_take_of_lt hi] at e1 e2
    exact h.2 i x z e1 e2
  · rw [List.getElem?_append_right (by omega), l1] at e1
    rw [List.getElem?_append_right (by omega), l2] at e2
    cases hk : i - n with
    | zero => rw [hk] at e1 e2; cases e1; cases e2; exact k
    | succ m =>
      rw [hk, List.getElem?_cons_succ, List.getElem?_drop] at e1 e2
      exact h.2 _ x z e1 e2⟩
end My

/-! ### trees of plain boxes: one box put in, one changed -/
namespace My
open PySem PySem.Spec PyProof.Rows L2
inductive PT
  | mk (n : Nd) (kids : List PT)
def PT.n : PT → Nd | .mk n _ => n
def PT.kids : PT → List PT | .mk _ ks => ks
/-- a box, the addresses of those right in it -/
abbrev Nk := Nd × List Addr
mutual
def PT.nodes : PT → List Nk
  | .mk n ks => (n, ks.map fun k => k.n.b) :: nodesL ks
def nodesL : List PT → List Nk
  | [] => []
  | k :: ks => k.nodes ++ nodesL ks
end
mutual
def PT.mod (b : Addr) (f : Nd → Nd) (g : List PT → List PT) : PT → PT
  | .mk n ks => if n.b = b then .mk (f n) (g ks) else .mk n (modL b f g ks)
def modL (b : Addr) (f : Nd → Nd) (g : List PT → List PT) : List PT → List PT
  | [] => []
  | k :: ks => k.mod b f g :: modL b f g ks
end
def bsN (l : List Nk) : List Addr := l.map fun x => x.1.b
section
variable {b : Addr} {f : Nd → Nd} {g : List PT → List PT}
theorem mod_n (hf : ∀ n, (f n).b = n.b) (t : PT) : (t.mod b f g).n.b = t.n.b := by
  cases t with
  | mk n ks =>
    rw [PT.mod]
    split
    · exact hf n
    · rfl
theorem modL_b (hf : ∀ n, (f n).b = n.b) : ∀ ks : List PT, ((modL b f g ks).map fun k => k.n.b) = ks.map fun k => k.n.b
  | [] => by rw [modL]
  | k :: ks => by rw [modL, List.map_cons, List.map_cons, mod_n hf, modL_b hf ks]
mutual
theorem mod_not : ∀ t : PT, b ∉ bsN t.nodes → t.mod b f g = t
  | .mk n ks, h => by
    rw [PT.nodes] at h
    have h1 : n.b ≠ b := fun e => h (by rw [bsN, List.map_cons]; exact e ▸ List.mem_cons_self)
    have h2 : b ∉ bsN (nodesL ks) := fun m => h (by rw [bsN, List.map_cons]; exact List.mem_cons_of_mem _ m)
    rw [PT.mod, if_neg h1, modL_not ks h2]
theorem modL_not : ∀ ks : List PT, b ∉ bsN (nodesL ks) → modL b f g ks = ks
  | [], _ => by rw [modL]
  | k :: ks, h => by
    rw [nodesL, bsN, List.map_append] at h
    rw [modL, mod_not k fun m => h (List.mem_append_left _ m), modL_not ks fun m => h (List.mem_append_right _ m)]
end
/-- the box at b, what stands ahead and behind -/
def Split (b : Addr) (f : Nd → Nd) (g : List PT → List PT) (l l' : List Nk) : Prop :=
  ∃ (n : Nd) (ks : List PT) (pre post : List Nk), n.b = b ∧ l = pre ++ ((n, ks.map fun k => k.n.b) :: nodesL ks) ++ post ∧ l' = pre ++ ((f n, (g ks).map fun k => k.n.b) :: nodesL (g ks)) ++ post
theorem Split.left {l l' a : List Nk} (h : Split b f g l l') : Split b f g (a ++ l) (a ++ l') := by
  obtain ⟨n, ks, pre, post, e1, e2, e3⟩ := h
  exact ⟨n, ks, a ++ pre, post, e1, by rw [e2]; simp only [List.append_assoc], by rw [e3]; simp only [List.append_assoc]⟩
theorem Split.right {l l' a : List Nk} (h : Split b f g l l') : Split b f g (l ++ a) (l' ++ a) := by
  obtain ⟨n, ks, pre, post, e1, e2, e3⟩ := h
  exact ⟨n, ks, pre, post ++ a, e1, by rw [e2]; simp only [List.append_assoc], by rw [e3]; simp only [List.append_assoc]⟩
mutual
theorem mod_split (hf : ∀ n, (f n).b = n.b) : ∀ t : PT, b ∈ bsN t.nodes → (bsN t.nodes).Nodup → Split b f g t.nodes (t.mod b f g).nodes
  | .mk n ks, m, nd => by
    rw [PT.nodes] at m nd ⊢
    rw [PT.mod]
    by_cases e : n.b = b
    · rw [if_pos e, PT.nodes]
      exact ⟨n, ks, [], [], e, by rw [List.nil_append, List.append_nil], by rw [List.nil_append, List.append_nil]⟩
    · rw [if_neg e, PT.nodes, modL_b hf]
      rw [bsN, List.map_cons] at m nd
      have m2 : b ∈ bsN (nodesL ks) := (List.mem_cons.mp m).resolve_left fun z => e z.symm
      exact (modL_split hf ks m2 (List.nodup_cons.mp nd).2).left (a := [_])
theorem modL_split (hf : ∀ n, (f n).b = n.b) : ∀ ks : List PT, b ∈ bsN (nodesL ks) → (bsN (nodesL ks)).Nodup → Split b f g (nodesL ks) (nodesL (modL b f g ks))
  | [], m, _ => by rw [nodesL] at m; cases m
  | k :: ks, m, nd => by
    rw [nodesL, bsN, List.map_append] at m nd
    rw [modL, nodesL, nodesL]
    obtain ⟨n1, n2, n3⟩ := List.nodup_append.mp nd
    by_cases mk : b ∈ bsN k.nodes
    · rw [modL_not ks fun z => n3 b mk b z rfl]
      exact (mod_split hf k mk n1).right
    · rw [mod_not k mk]
      exact (modL_split hf ks ((List.mem_append.mp m).resolve_left mk) n2).left
end
/-- in another order: the changed box in its place, what is new at the end -/
theorem mod_perm (hf : ∀ n, (f n).b = n.b) {h : List Addr → List Addr} {ex : List Nk} (hg : ∀ ks, (nodesL (g ks)).Perm (ex ++ nodesL ks)) (hh : ∀ ks : List PT, ((g ks).map fun k => k.n.b) = h (ks.map fun k => k.n.b))
    {t : PT} {ns : List Nk} {j : Nat} {n : Nd} {kb : List Addr} (hp : ns.Perm t.nodes) (nd : (bsN t.nodes).Nodup) (e : ns[j]? = some (n, kb)) (eb : n.b = b) :
    (ns.set j (f n, h kb) ++ ex).Perm (t.mod b f g).nodes := by
  have mn : (n, kb) ∈ t.nodes := hp.mem_iff.mp (List.mem_of_getElem? e)
  have mb : b ∈ bsN t.nodes := List.mem_map.mpr ⟨_, mn, eb⟩
  obtain ⟨n', ks, pre, post, e1, e2, e3⟩ := mod_split (g := g) hf t mb nd
  have mn' : (n', ks.map fun k => k.n.b) ∈ t.nodes := by rw [e2]; simp
  have same : (n, kb) = (n', ks.map fun k => k.n.b) := by
    obtain ⟨i1, h1, g1⟩ := List.getElem_of_mem mn
    obtain ⟨i2, h2, g2⟩ := List.getElem_of_mem mn'
    have h1' : i1 < (bsN t.nodes).length := by rw [bsN, List.length_map]; exact h1
    have h2' : i2 < (bsN t.nodes).length := by rw [bsN, List.length_map]; exact h2
    have : (bsN t.nodes)[i1] = (bsN t.nodes)[i2] := by
      simp only [bsN, List.getElem_map, g1, g2]
      rw [eb, e1]
    have := (List.getElem_inj nd).mp this
    subst this
    rw [← g1, ← g2]
  obtain ⟨rfl, rfl⟩ := Prod.mk.inj same
  rw [e3, hh]
  have hj := (List.getElem?_eq_some_iff.mp e).1
  have ej := (List.getElem?_eq_some_iff.mp e).2
  have d1 : ns = ns.take j ++ (n, ks.map fun k => k.n.b) :: ns.drop (j + 1) := by
    conv => lhs; rw [← List.take_append_drop j ns, List.drop_eq_getElem_cons hj, ej]
  have d2 : ns.set j (f n, h (ks.map fun k => k.n.b)) = ns.take j ++ (f n, h (ks.map fun k => k.n.b)) :: ns.drop (j + 1) := List.set_eq_take_append_cons_drop.trans (if_pos hj)
  have p1 : (ns.take j ++ ns.drop (j + 1)).Perm (pre ++ nodesL ks ++ post) := by
    have q : ((n, ks.map fun k => k.n.b) :: (ns.take j ++ ns.drop (j + 1))).Perm ((n, ks.map fun k => k.n.b) :: (pre ++ nodesL ks ++ post)) := by
      refine List.Perm.trans List.perm_middle.symm ?_
      rw [← d1]
      refine hp.trans ?_
      rw [e2, List.append_assoc, List.append_assoc]
      exact List.perm_middle
    exact List.Perm.cons_inv q
  have p2 : (ns.take j ++ (ns.drop (j + 1) ++ ex)).Perm ((pre ++ nodesL ks ++ post) ++ ex) := by rw [← List.append_assoc]; exact p1.append_right ex
  have p3 : ((pre ++ nodesL ks ++ post) ++ ex).Perm (pre ++ (ex ++ nodesL ks ++ post)) := by
    rw [List.append_assoc pre, List.append_assoc pre, List.append_assoc ex]
    exact List.Perm.append_left pre List.perm_append_comm
  have p4 := p2.trans (p3.trans (List.Perm.append_left pre ((hg ks).append_right post)).symm)
  rw [d2, List.append_assoc, List.append_assoc, List.cons_append, List.cons_append]
  exact List.perm_middle.trans ((p4.cons _).trans List.perm_middle.symm)
end
theorem nodesL_app : ∀ (a c : List PT), nodesL (a ++ c) = nodesL a ++ nodesL c
  | [], c => by rw [List.nil_append, nodesL, List.nil_append]
  | k :: a, c => by rw [List.cons_append, nodesL, nodesL, nodesL_app a c, List.append_assoc]
theorem put_perm (p : Nat) (x : Nd) (ks : List PT) : (nodesL (putL p (.mk x []) ks)).Perm ([(x, [])] ++ nodesL ks) := by
  unfold putL
  rw [nodesL_app, nodesL, PT.nodes, nodesL]
  conv => rhs; rw [← List.take_append_drop p ks, nodesL_app]
  exact List.perm_middle
theorem put_b (p : Nat) (x : Nd) (ks : List PT) : ((putL p (.mk x []) ks).map fun k => k.n.b) = putL p x.b (ks.map fun k => k.n.b) := putL_map _ _ _ _
/-! #### how deep -/
mutual
def PT.dep : PT → Nat
  | .mk _ ks => depL ks + 1
def depL : List PT → Nat
  | [] => 0
  | k :: ks => max k.dep (depL ks)
end
mutual
theorem dep_le {l : Addr → Nat} {m : Nat} : ∀ t : PT, (∀ x ∈ t.nodes, l x.1.b ≤ m ∧ ∀ k ∈ x.2, l x.1.b < l k) → t.dep + l t.n.b ≤ m + 1
  | .mk n ks, h => by
    rw [PT.nodes] at h
    have h0 := h _ List.mem_cons_self
    have := depL_le (l := l) (m := m) (d := l n.b) ks h0.1 (fun x mx => h x (List.mem_cons_of_mem _ mx)) fun k mk => h0.2 _ (List.mem_map.mpr ⟨k, mk, rfl⟩)
    show depL ks + 1 + l n.b ≤ m + 1
    omega
theorem depL_le {l : Addr → Nat} {m d : Nat} : ∀ ks : List PT, d ≤ m → (∀ x ∈ nodesL ks, l x.1.b ≤ m ∧ ∀ k ∈ x.2, l x.1.b < l k) → (∀ k ∈ ks, d < l k.n.b) → depL ks + d ≤ m
  | [], hd, _, _ => by rw [depL]; omega
  | k :: ks, hd, h, hk => by
    rw [nodesL] at h
    have h1 := dep_le k fun x mx => h x (List.mem_append_left _ mx)
    have h2 := depL_le ks hd (fun x mx => h x (List.mem_append_right _ mx)) fun j mj => hk j (List.mem_cons_of_mem _ mj)
    have h3 := hk k List.mem_cons_self
    rw [depL]
    omega
end
/-! #### what a tree tells, without its addresses -/
inductive CT
  | mk (nm : List Nat) (st : List V) (ow : Own) (kids : List CT)
def CT.nm : CT → List Nat | .mk n _ _ _ => n
def CT.st : CT → List V | .mk _ s _ _ => s
def CT.ow : CT → Own | .mk _ _ o _ => o
def CT.kids : CT → List CT | .mk _ _ _ ks => ks
mutual
def PT.ct : PT → CT
  | .mk n ks => .mk n.nm n.st n.ow (ctL ks)
def ctL : List PT → List CT
  | [] => []
  | k :: ks => k.ct :: ctL ks
end
mutual
def CT.dep : CT → Nat
  | .mk _ _ _ ks => cdepL ks + 1
def cdepL : List CT → Nat
  | [] => 0
  | k :: ks => max k.dep (cdepL ks)
end
mutual
/-- in order, each with its holder's name -/
def CT.pre : CT → V → List (CT × V)
  | .mk n s o ks, h => (.mk n s o ks, h) :: cpreL ks (.str (sO n))
def cpreL : List CT → V → List (CT × V)
  | [], _ => []
  | k :: ks, h => k.pre h ++ cpreL ks h
end
mutual
/-- a plain box at a place -/
def PlAt (H : Hp) : CT → V → Prop
  | .mk nm st ow ks, v => ∃ (b vv o i : Addr) (cs : List Addr) (xs : List V), v = .ref b ∧ H b = some (.lst [sX (kdW ow.kd), .str (sO nm), .ref vv, .ref o, .ref i]) ∧ H vv = some (.lst st) ∧ OwnN H o cs ow ∧ H i = some (.lst xs) ∧ PlAtL H ks xs
def PlAtL (H : Hp) : List CT → List V → Prop
  | [], xs => xs = []
  | k :: ks, xs => ∃ x ys, xs = x :: ys ∧ PlAt H k x ∧ PlAtL H ks ys
end
mutual
/-- each box good, by itself -/
def CtOk (K : PySem.W.Frag) (H : Hp) : CT → Prop
  | .mk nm st ow ks => NameOk nm ∧ OkL K H st ∧ OwnI ks.length ow ∧ ks.length ≤ 20 ∧ CtOkL K H ks
def CtOkL (K : PySem.W.Frag) (H : Hp) : List CT → Prop
  | [] => True
  | k :: ks => CtOk K H k ∧ CtOkL K H ks
end
section
variable {K : PySem.W.Frag} {H H' : Hp}
theorem OwnN.same {o : Addr} {cs : List Addr} {w : Own} (h : OwnN H o cs w) (s : Same H H') : OwnN H' o cs w := h.mv (Same.ks s) fun a _ xs g => s _ _ g
mutual
theorem PlAt.same (s : Same H H') : ∀ (t : CT) (v : V), PlAt H t v → PlAt H' t v
  | .mk nm st ow ks, v, h => by
    rw [PlAt] at h ⊢
    obtain ⟨b, vv, o, i, cs, xs, e, h1, h2, h3, h4, h5⟩ := h
    exact ⟨b, vv, o, i, cs, xs, e, s _ _ h1, s _ _ h2, h3.same s, s _ _ h4, PlAtL.same s ks xs h5⟩
theorem PlAtL.same (s : Same H H') : ∀ (ks : List CT) (xs : List V), PlAtL H ks xs → PlAtL H' ks xs
  | [], xs, h => h
  | k :: ks, xs, h => by
    rw [PlAtL] at h ⊢
    obtain ⟨x, ys, e, h1, h2⟩ := h
    exact ⟨x, ys, e, PlAt.same s k x h1, PlAtL.same s ks ys h2⟩
end
mutual
theorem CtOk.ks (s : KeepS H H') : ∀ t : CT, CtOk K H t → CtOk K H' t
  | .mk nm st ow ks, h => by
    rw [CtOk] at h ⊢
    exact ⟨h.1, s.okL h.2.1, h.2.2.1, h.2.2.2.1, CtOkL.ks s ks h.2.2.2.2⟩
theorem CtOkL.ks (s : KeepS H H') : ∀ ks : List CT, CtOkL K H ks → CtOkL K H' ks
  | [], h => h
  | k :: ks, h => by
    rw [CtOkL] at h ⊢
    exact ⟨CtOk.ks s k h.1, CtOkL.ks s ks h.2⟩
end
theorem ctL_len : ∀ ks : List PT, (ctL ks).length = ks.length
  | [] => by rw [ctL]; rfl
  | k :: ks => by rw [ctL, List.length_cons, List.length_cons, ctL_len ks]
theorem PT.ct_nm (t : PT) : t.ct.nm = t.n.nm := by cases t; rw [PT.ct]; rfl
theorem PT.ct_st (t : PT) : t.ct.st = t.n.st := by cases t; rw [PT.ct]; rfl
mutual
theorem pt_pl : ∀ t : PT, (∀ x ∈ t.nodes, NdAt H x.1 x.2) → PlAt H t.ct (.ref t.n.b)
  | .mk n ks, h => by
    rw [PT.nodes] at h
    have h0 := h _ List.mem_cons_self
    rw [PT.ct, PlAt]
    exact ⟨n.b, n.v, n.o, n.i, n.cs, _, rfl, h0.hb, h0.hv, h0.ho, h0.hi, pl_L ks fun x mx => h x (List.mem_cons_of_mem _ mx)⟩
theorem pl_L : ∀ ks : List PT, (∀ x ∈ nodesL ks, NdAt H x.1 x.2) → PlAtL H (ctL ks) ((ks.map fun k => k.n.b).map V.ref)
  | [], _ => by rw [ctL, PlAtL]; rfl
  | k :: ks, h => by
    rw [nodesL] at h
    rw [ctL, PlAtL]
    exact ⟨_, _, rfl, pt_pl k fun x mx => h x (List.mem_append_left _ mx), pl_L ks fun x mx => h x (List.mem_append_right _ mx)⟩
end
def NkOk (K : PySem.W.Frag) (H : Hp) (x : Nk) : Prop := NameOk x.1.nm ∧ OkL K H x.1.st ∧ OwnI x.2.length x.1.ow ∧ x.2.length ≤ 20
mutual
theorem pt_ok : ∀ t : PT, (∀ x ∈ t.nodes, NkOk K H x) → CtOk K H t.ct
  | .mk n ks, h => by
    rw [PT.nodes] at h
    obtain ⟨h1, h2, h3, h4⟩ := h _ List.mem_cons_self
    rw [List.length_map] at h3 h4
    rw [PT.ct, CtOk, ctL_len]
    exact ⟨h1, h2, h3, h4, ok_ctL ks fun x mx => h x (List.mem_cons_of_mem _ mx)⟩
theorem ok_ctL : ∀ ks : List PT, (∀ x ∈ nodesL ks, NkOk K H x) → CtOkL K H (ctL ks)
  | [], _ => by rw [ctL, CtOkL]; trivial
  | k :: ks, h => by
    rw [nodesL] at h
    rw [ctL, CtOkL]
    exact ⟨pt_ok k fun x mx => h x (List.mem_append_left _ mx), ok_ctL ks fun x mx => h x (List.mem_append_right _ mx)⟩
end
mutual
theorem ct_dep : ∀ t : PT, t.ct.dep = t.dep
  | .mk n ks => by rw [PT.ct, CT.dep, PT.dep, cdep_L ks]
theorem cdep_L : ∀ ks : List PT, cdepL (ctL ks) = depL ks
  | [] => by rw [ctL, cdepL, depL]
  | k :: ks => by rw [ctL, cdepL, depL, ct_dep k, cdep_L ks]
end
mutual
theorem ct_pre : ∀ (t : PT) (h : V), ((t.ct.pre h).map fun e => (e.1.nm, e.1.st)) = t.nodes.map fun x => (x.1.nm, x.1.st)
  | .mk n ks, h => by
    rw [PT.ct, CT.pre, PT.nodes, List.map_cons, List.map_cons, cpre_L ks]
    rfl
theorem cpre_L : ∀ (ks : List PT) (h : V), ((cpreL (ctL ks) h).map fun e => (e.1.nm, e.1.st)) = (nodesL ks).map fun x => (x.1.nm, x.1.st)
  | [], h => by rw [ctL, cpreL, nodesL]; rfl
  | k :: ks, h => by rw [ctL, cpreL, nodesL, List.map_append, List.map_append, ct_pre k, cpre_L ks]
end
end
/-- a tree of plain boxes that is good -/
structure TrOk (K : PySem.W.Frag) (H : Hp) (t : PT) : Prop where
  nd : ∀ x ∈ t.nodes, NdAt H x.1 x.2
  ok : ∀ x ∈ t.nodes, NkOk K H x
  asn : (t.nodes.flatMap fun x => x.1.as).Nodup
  nmn : (t.nodes.map fun x => x.1.nm).Nodup
  dep : t.dep ≤ 10
  few : t.nodes.length ≤ 40
  ties : ∀ x ∈ t.nodes, SzIn (t.nodes.map fun x => x.1.nm) H true (x.1.st.getD 0 .non) ∧ SzIn (t.nodes.map fun x => x.1.nm) H true (x.1.st.getD 1 .non)
  root : SzIn (t.nodes.map fun x => x.1.nm) H false (t.n.st.getD 0 .non) ∧ SzIn (t.nodes.map fun x => x.1.nm) H false (t.n.st.getD 1 .non)
theorem bs_nodup : ∀ {ns : List Nk}, (ns.flatMap fun x => x.1.as).Nodup → (bsN ns).Nodup
  | [], _ => List.nodup_nil
  | x :: ns, h => by
    rw [List.flatMap_cons] at h
    obtain ⟨_, h2, h3⟩ := List.nodup_append.mp h
    rw [bsN, List.map_cons, List.nodup_cons]
    refine ⟨fun m => ?_, bs_nodup h2⟩
    obtain ⟨y, my, e⟩ := List.mem_map.mp m
    exact h3 x.1.b (by simp [Nd.as]) y.1.b (List.mem_flatMap.mpr ⟨y, my, by simp [Nd.as]⟩) e.symm
/-- addresses of unlike boxes are unlike -/
theorem as_apart : ∀ {ns : List Nk}, (ns.flatMap fun x => x.1.as).Nodup → ∀ {i j : Nat} {x y : Nk}, ns[i]? = some x → ns[j]? = some y → i ≠ j → ∀ a ∈ x.1.as, a ∉ y.1.as
  | [], _, i, j, x, y, e, _, _ => by cases e
  | z :: ns, h, i, j, x, y, e1, e2, n => by
    rw [List.flatMap_cons] at h
    obtain ⟨_, h2, h3⟩ := List.nodup_append.mp h
    intro a m1 m2
    match i, j, e1, e2, n with
    | 0, 0, _, _, n => exact n rfl
    | 0, j + 1, e1, e2, _ =>
      cases e1
      exact h3 a m1 a (List.mem_flatMap.mpr ⟨y, List.mem_of_getElem? e2, m2⟩) rfl
    | i + 1, 0, e1, e2, _ =>
      cases e2
      exact h3 a m2 a (List.mem_flatMap.mpr ⟨x, List.mem_of_getElem? e1, m1⟩) rfl
    | i + 1, j + 1, e1, e2, n => exact as_apart h2 (i := i) (j := j) e1 e2 (fun e => n (by rw [e])) a m1 m2
theorem as_nodup : ∀ {ns : List Nk}, (ns.flatMap fun x => x.1.as).Nodup → ∀ x ∈ ns, x.1.as.Nodup
  | z :: ns, h, x, m => by
    rw [List.flatMap_cons] at h
    obtain ⟨h1, h2, h3⟩ := List.nodup_append.mp h
    rcases List.mem_cons.mp m with rfl | m
    · exact h1
    · exact as_nodup h2 x m
theorem mem_set {α : Type} {l : List α} {j : Nat} {x y : α} (h : x ∈ l.set j y) : x = y ∨ ∃ i, i ≠ j ∧ l[i]? = some x := by
  obtain ⟨i, e⟩ := List.getElem?_of_mem h
  rw [List.getElem?_set] at e
  split at e
  · split at e
    · cases e; exact .inl rfl
    · cases e
  · next n => exact .inr ⟨i, fun z => n z.symm, e⟩
theorem set_map {α β : Type} (f : α → β) {l : List α} {j : Nat} {x y : α} (e : l[j]? = some x) (h : f y = f x) : (l.set j y).map f = l.map f := by
  refine List.ext_getElem? fun i => ?_
  rw [List.getElem?_map, List.getElem?_map, List.getElem?_set]
  split
  · next n =>
    subst n
    rw [if_pos (List.getElem?_eq_some_iff.mp e).1, e, Option.map_some, Option.map_some, h]
  · rfl
theorem set_flat {α β : Type} (f : α → List β) {l : List α} {j : Nat} {x y : α} (e : l[j]? = some x) (h : f y = f x) : (l.set j y).flatMap f = l.flatMap f := by
  rw [List.flatMap_def, List.flatMap_def, set_map f e h]
theorem ButK.ks {s kn : Addr} {H H' : Hp} {kvs : List (Key × V)} (b : ButK s kn H H') (hs : Src H s) (hk : H kn = some (.dK kvs)) : KeepS H H' := fun a o e st => b a o e (by
  obtain ⟨z, hz⟩ := hs
  rintro rfl
  rw [hz] at e
  cases e
  exact st) (by
  rintro rfl
  rw [hk] at e
  cases e
  exact st)
theorem dnew_i {g : TG} {b : TS} {D : Ends} {σ : L2.St} {H : Hp} (h : New H (.dK []) fun x H1 => g x σ H1 fun σ' H' => b D σ' H') : tSeq (tAsg tDNewA g) b D σ H := h
/-- where the drawing of a tree stands: boxes, levels, names -/
structure TrI (K : PySem.W.Frag) (H0 : Hp) (s kn pB pD : Addr) (i : Nat) (H : Hp) (T : PT) (ns : List Nk) (l : Addr → Nat) (ls : List (List Nat)) : Prop where
  dr : Dr s H0 H
  gB : H pB = some (.lst (ns.map fun x => .ref x.1.b))
  gD : H pD = some (.lst (ns.map fun x => .int (l x.1.b : Int)))
  gk : H kn = some (.dK (knD ls))
  ll : ls.length ≤ i + 1
  ln : ns.length ≤ i + 1
  pm : ns.Perm T.nodes
  rt : ∃ x, ns[0]? = some x ∧ x.1.b = T.n.b
  nd : ∀ x ∈ ns, NdAt H x.1 x.2
  ok : ∀ x ∈ ns, NkOk K H x
  lv : ∀ x ∈ ns, l x.1.b ≤ 10 ∧ ∀ k ∈ x.2, l x.1.b < l k
  l1 : ∀ x ∈ ns, 1 ≤ l x.1.b
  nm : ∀ x ∈ ns, x.1.nm ∈ ls
  s0 : ∀ x ∈ ns, x.1.st.getD 0 .non = .non ∧ x.1.st.getD 1 .non = .non
  fr : ∀ x ∈ ns, ∀ a ∈ x.1.as, H0 a = none ∧ a ≠ s ∧ a ≠ pB ∧ a ≠ pD ∧ a ≠ kn
  asn : (ns.flatMap fun x => x.1.as).Nodup
  nmn : (ns.map fun x => x.1.nm).Nodup
theorem NkOk.ks {K : PySem.W.Frag} {H H' : Hp} {x : Nk} (h : NkOk K H x) (k : KeepS H H') : NkOk K H' x := ⟨h.1, k.okL h.2.1, h.2.2⟩
section
variable {K : PySem.W.Frag} {H0 H H1 : Hp} {s kn pB pD : Addr} {i : Nat} {T : PT} {ns : List Nk} {l : Addr → Nat} {ls : List (List Nat)}
theorem TrI.dr' (h : TrI K H0 s kn pB pD i H T ns l ls) (d : Dr s H H1) (nB : pB ≠ s) (nD : pD ≠ s) (nk : kn ≠ s) : TrI K H0 s kn pB pD i H1 T ns l ls :=
  { h with dr := h.dr.trans d, gB := d.app nB h.gB, gD := d.app nD h.gD, gk := d.app nk h.gk, nd := fun x m => (h.nd x m).mv (d.ks h.dr.s) fun a ma xs g => d.app (h.fr x m a ma).2.1 g, ok := fun x m => (h.ok x m).ks (d.ks h.dr.s) }
theorem TrI.same (h : TrI K H0 s kn pB pD i H T ns l ls) (d : Same H H1) : TrI K H0 s kn pB pD i H1 T ns l ls :=
  { h with dr := h.dr.same d, gB := d _ _ h.gB, gD := d _ _ h.gD, gk := d _ _ h.gk, nd := fun x m => (h.nd x m).same d, ok := fun x m => (h.ok x m).ks (Same.ks d) }
theorem TrI.box (h : TrI K H0 s kn pB pD i H T ns l ls) {nm : List Nat} (b : ButK s kn H H1) (hs : Src H1 s) (g : H1 kn = some (.dK (knD (ls ++ [nm])))) (fk : H0 kn = none) (nB : pB ≠ s) (nD : pD ≠ s) (kB : pB ≠ kn) (kD : pD ≠ kn) : TrI K H0 s kn pB pD (i + 1) H1 T ns l (ls ++ [nm]) :=
  have kk : KeepS H H1 := b.ks h.dr.s h.gk
  { h with
    dr := ⟨hs, fun a o n e => b a o (h.dr.b a o n e) n (ne_of_none e fk)⟩
    gB := b _ _ h.gB nB kB
    gD := b _ _ h.gD nD kD
    gk := g
    ll := by rw [List.length_append]; exact Nat.succ_le_succ h.ll
    ln := by have := h.ln; omega
    nd := fun x m => (h.nd x m).mv kk fun a ma xs g => b _ _ g (h.fr x m a ma).2.1 (h.fr x m a ma).2.2.2.2
    ok := fun x m => (h.ok x m).ks kk
    nm := fun x m => List.mem_append_left _ (h.nm x m) }
theorem head_in : ∀ t : PT, t.n.b ∈ bsN t.nodes
  | .mk n ks => by rw [PT.nodes]; exact List.mem_cons_self
theorem headL_in : ∀ {ks : List PT} {k : Addr}, k ∈ ks.map (fun k => k.n.b) → k ∈ bsN (nodesL ks)
  | [], k, m => by cases m
  | t :: ks, k, m => by
    rw [nodesL, bsN, List.map_append]
    rw [List.map_cons] at m
    rcases List.mem_cons.mp m with rfl | m
    · exact List.mem_append_left _ (head_in t)
    · exact List.mem_append_right _ (headL_in m)
mutual
theorem kids_in : ∀ (t : PT), ∀ x ∈ t.nodes, ∀ k ∈ x.2, k ∈ bsN t.nodes
  | .mk n ks, x, m, k, mk => by
    rw [PT.nodes] at m ⊢
    rw [bsN, List.map_cons]
    rcases List.mem_cons.mp m with rfl | m
    · exact List.mem_cons_of_mem _ (headL_in mk)
    · exact List.mem_cons_of_mem _ (kidsL_in ks x m k mk)
theorem kidsL_in : ∀ (ks : List PT), ∀ x ∈ nodesL ks, ∀ k ∈ x.2, k ∈ bsN (nodesL ks)
  | [], x, m, k, mk => by rw [nodesL] at m; cases m
  | t :: ks, x, m, k, mk => by
    rw [nodesL] at m ⊢
    rw [bsN, List.map_append]
    rcases List.mem_append.mp m with m | m
    · exact List.mem_append_left _ (kids_in t x m k mk)
    · exact List.mem_append_right _ (kidsL_in ks x m k mk)
end
theorem TrI.put (h : TrI K H0 s kn pB pD (i + 1) H T ns l ls) {H2 H3 H4 : Hp} {j p : Nat} {n0 n : Nd} {kb : List Addr} {w : Own} (hl : ns.length ≤ i + 1) (e : ns[j]? = some (n0, kb))
    (hn : NdAt H n []) (okn : NkOk K H (n, [])) (nml : n.nm ∈ ls) (nmx : n.nm ∉ ns.map fun x => x.1.nm) (st : n.st.getD 0 .non = .non ∧ n.st.getD 1 .non = .non) (nda : n.as.Nodup)
    (frn : ∀ a ∈ n.as, H0 a = none ∧ a ≠ s ∧ a ≠ pB ∧ a ≠ pD ∧ a ≠ kn) (apn : ∀ a ∈ n.as, a ∉ ns.flatMap fun x => x.1.as) (l10 : l n0.b < 10)
    (hs2 : Src H2 s) (kk : KeepS H H2) (bb : ∀ a o, H a = some o → a ≠ s → a ∉ n0.as → H2 a = some o) (h0 : NdAt H2 { n0 with ow := w } (putL p n.b kb)) (ow : OwnI (kb.length + 1) w) (lk : kb.length < 20)
    (b3 : But pB H2 H3) (g3 : H3 pB = some (.lst ((ns.map fun x => V.ref x.1.b) ++ [.ref n.b]))) (b4 : But pD H3 H4) (g4 : H4 pD = some (.lst ((ns.map fun x => V.int (l x.1.b : Int)) ++ [.int ((l n0.b : Int) + 1)])))
    (fB : H0 pB = none) (fD : H0 pD = none) (nB : pB ≠ s) (nD : pD ≠ s) (nk : kn ≠ s) (BD : pB ≠ pD) (kB : pB ≠ kn) (kD : pD ≠ kn) :
    ∃ (T' : PT) (ns' : List Nk) (l' : Addr → Nat), TrI K H0 s kn pB pD (i + 1) H4 T' ns' l' ls := by
  have m0 : (n0, kb) ∈ ns := List.mem_of_getElem? e
  have f0 := h.fr _ m0
  have hB2 : H2 pB = some (.lst (ns.map fun x => V.ref x.1.b)) := bb _ _ h.gB nB fun m => (f0 pB m).2.2.1 rfl
  have hD2 : H2 pD = some (.lst (ns.map fun x => V.int (l x.1.b : Int))) := bb _ _ h.gD nD fun m => (f0 pD m).2.2.2.1 rfl
  have hk2 : H2 kn = some (.dK (knD ls)) := bb _ _ h.gk nk fun m => (f0 kn m).2.2.2.2 rfl
  have hD3 := b3.app BD.symm hD2
  have k23 : KeepS H2 H3 := KeepS.refl.butL b3 hB2
  have k34 : KeepS H3 H4 := KeepS.refl.butL b4 hD3
  have k24 := k23.trans k34
  have x24 : ∀ {a : Addr} {o : HO}, a ≠ pB → a ≠ pD → H2 a = some o → H4 a = some o := fun n1 n2 g => b4.app n2 (b3.app n1 g)
  have lb : ∀ x ∈ ns, x.1.b ≠ n.b := fun x m z => apn n.b (by simp [Nd.as]) (List.mem_flatMap.mpr ⟨x, m, by simp [Nd.as, ← z]⟩)
  have eq1 : ((ns.set j ({ n0 with ow := w }, putL p n.b kb)).map fun x => x.1.b) = ns.map fun x => x.1.b := set_map (fun x : Nk => x.1.b) e rfl
  have eq2 : ((ns.set j ({ n0 with ow := w }, putL p n.b kb)).map fun x => x.1.nm) = ns.map fun x => x.1.nm := set_map (fun x : Nk => x.1.nm) e rfl
  have eq3 : ((ns.set j ({ n0 with ow := w }, putL p n.b kb)).flatMap fun x => x.1.as) = ns.flatMap fun x => x.1.as := set_flat (fun x : Nk => x.1.as) e rfl
  have old : ∀ x, x ∈ ns.set j ({ n0 with ow := w }, putL p n.b kb) ++ [(n, [])] → x = ({ n0 with ow := w }, putL p n.b kb) ∨ x = (n, []) ∨ ∃ q, q ≠ j ∧ ns[q]? = some x := fun x m => by
    rcases List.mem_append.mp m with m | m
    · rcases mem_set m with rfl | z
      · exact .inl rfl
      · exact .inr (.inr z)
    · exact .inr (.inl (List.mem_singleton.mp m))
  have kids : ∀ x ∈ ns, ∀ k ∈ x.2, k ≠ n.b := fun x m k mk z => by
    have := kids_in T x (h.pm.mem_iff.mp m) k mk
    obtain ⟨y, my, e⟩ := List.mem_map.mp this
    exact lb y (h.pm.mem_iff.mpr my) (e.trans z)
  have bn : (bsN T.nodes).Nodup := (h.pm.map (fun x : Nk => x.1.b)).nodup (bs_nodup h.asn)
  have pm' := mod_perm (b := n0.b) (f := fun x => { x with ow := w }) (g := putL p (.mk n [])) (fun _ => rfl) (fun ks => put_perm p n ks) (fun ks => put_b p n ks) h.pm bn e rfl
  have lt0 := (h.lv _ m0).1
  refine ⟨T.mod n0.b (fun x => { x with ow := w }) (putL p (.mk n [])), ns.set j ({ n0 with ow := w }, putL p n.b kb) ++ [(n, [])], fun a => if a = n.b then l n0.b + 1 else l a, ?_⟩
  have lold : ∀ x ∈ ns, (if x.1.b = n.b then l n0.b + 1 else l x.1.b) = l x.1.b := fun x m => if_neg (lb x m)
  have fr' : ∀ x ∈ ns.set j ({ n0 with ow := w }, putL p n.b kb) ++ [(n, [])], ∀ a ∈ x.1.as, H0 a = none ∧ a ≠ s ∧ a ≠ pB ∧ a ≠ pD ∧ a ≠ kn := fun x m => by
    rcases old x m with rfl | rfl | ⟨q, nq, eq⟩
    · exact f0
    · exact frn
    · exact h.fr x (List.mem_of_getElem? eq)
  have apart0 : ∀ (q : Nat) (x : Nk), q ≠ j → ns[q]? = some x → ∀ a ∈ x.1.as, a ∉ n0.as := fun q x nq eq => as_apart h.asn eq e nq
  exact {
    dr := ⟨(hs2.but b3 nB.symm).but b4 nD.symm, fun a o n1 g => x24 (ne_of_none g fB) (ne_of_none g fD) (bb a o (h.dr.b a o n1 g) n1 fun m => by rw [(f0 a m).1] at g; cases g)⟩
    gB := by
      rw [b4.app BD g3, List.map_append]
      have := congrArg (List.map V.ref) eq1
      rw [List.map_map, List.map_map] at this
      exact congrArg (fun z => some (HO.lst (z ++ [V.ref n.b]))) this.symm
    gD := by
      rw [g4, List.map_append]
      have e5 : ((ns.set j ({ n0 with ow := w }, putL p n.b kb)).map fun x => V.int (((if x.1.b = n.b then l n0.b + 1 else l x.1.b) : Nat) : Int)) = ns.map fun x => V.int (l x.1.b : Int) := by
        have := congrArg (List.map fun a : Addr => V.int (((if a = n.b then l n0.b + 1 else l a) : Nat) : Int)) eq1
        rw [List.map_map, List.map_map] at this
        refine this.trans (List.map_congr_left fun x m => ?_)
        show V.int (((if x.1.b = n.b then l n0.b + 1 else l x.1.b) : Nat) : Int) = _
        rw [lold x m]
      rw [e5]
      show some (HO.lst (_ ++ [V.int ((l n0.b : Int) + 1)])) = some (HO.lst (_ ++ [V.int (((if n.b = n.b then l n0.b + 1 else l n.b) : Nat) : Int)]))
      rw [if_pos rfl]
      rfl
    gk := x24 kB.symm kD.symm hk2
    ll := h.ll
    ln := by rw [List.length_append, List.length_set]; exact Nat.succ_le_succ hl
    pm := pm'
    rt := by
      obtain ⟨x, e0, eb⟩ := h.rt
      rw [mod_n (f := fun x => { x with ow := w }) (fun _ => rfl)]
      have l0 : 0 < ns.length := (List.getElem?_eq_some_iff.mp e0).1
      by_cases hj : j = 0
      · subst hj
        rw [e] at e0
        cases e0
        exact ⟨({ n0 with ow := w }, putL p n.b kb), by rw [List.getElem?_append_left (by rw [List.length_set]; exact l0), List.getElem?_set, if_pos rfl, if_pos l0], eb⟩
      · exact ⟨x, by rw [List.getElem?_append_left (by rw [List.length_set]; exact l0), List.getElem?_set_ne hj]; exact e0, eb⟩
    nd := fun x m => by
      have := fr' x m
      refine NdAt.mv (H := H2) ?_ k24 fun a ma xs g => x24 (this a ma).2.2.1 (this a ma).2.2.2.1 g
      rcases old x m with rfl | rfl | ⟨q, nq, eq⟩
      · exact h0
      · exact hn.mv kk fun a ma xs g => bb a _ g (frn a ma).2.1 fun z => apn a ma (List.mem_flatMap.mpr ⟨_, m0, z⟩)
      · exact (h.nd x (List.mem_of_getElem? eq)).mv kk fun a ma xs g => bb a _ g (this a ma).2.1 (apart0 q x nq eq a ma)
    ok := fun x m => by
      refine NkOk.ks ?_ k24
      rcases old x m with rfl | rfl | ⟨q, nq, eq⟩
      · have o0 := (h.ok _ m0).ks kk
        exact ⟨o0.1, o0.2.1, by rw [putL_len]; exact ow, by rw [putL_len]; exact lk⟩
      · exact okn.ks kk
      · exact (h.ok x (List.mem_of_getElem? eq)).ks kk
    lv := fun x m => by
      rcases old x m with rfl | rfl | ⟨q, nq, eq⟩
      · show (if n0.b = n.b then l n0.b + 1 else l n0.b) ≤ 10 ∧ ∀ k ∈ putL p n.b kb, (if n0.b = n.b then l n0.b + 1 else l n0.b) < if k = n.b then l n0.b + 1 else l k
        rw [if_neg (lb _ m0)]
        refine ⟨lt0, fun k mk => ?_⟩
        rcases putL_mem.mp mk with rfl | mk
        · rw [if_pos rfl]; omega
        · rw [if_neg (kids _ m0 k mk)]
          exact (h.lv _ m0).2 k mk
      · show (if n.b = n.b then l n0.b + 1 else l n.b) ≤ 10 ∧ _
        rw [if_pos rfl]
        exact ⟨l10, fun k mk => by cases mk⟩
      · have mx := List.mem_of_getElem? eq
        show (if x.1.b = n.b then l n0.b + 1 else l x.1.b) ≤ 10 ∧ ∀ k ∈ x.2, (if x.1.b = n.b then l n0.b + 1 else l x.1.b) < if k = n.b then l n0.b + 1 else l k
        rw [lold x mx]
        refine ⟨(h.lv x mx).1, fun k mk => ?_⟩
        rw [if_neg (kids x mx k mk)]
        exact (h.lv x mx).2 k mk
    l1 := fun x m => by
      rcases old x m with rfl | rfl | ⟨q, nq, eq⟩
      · show 1 ≤ if n0.b = n.b then l n0.b + 1 else l n0.b
        rw [if_neg (lb _ m0)]
        exact h.l1 (n0, kb) m0
      · show 1 ≤ if n.b = n.b then l n0.b + 1 else l n.b
        rw [if_pos rfl]; omega
      · have mx := List.mem_of_getElem? eq
        show 1 ≤ if x.1.b = n.b then l n0.b + 1 else l x.1.b
        rw [lold x mx]
        exact h.l1 x mx
    nm := fun x m => by
      rcases old x m with rfl | rfl | ⟨q, nq, eq⟩
      · exact h.nm (n0, kb) m0
      · exact nml
      · exact h.nm x (List.mem_of_getElem? eq)
    s0 := fun x m => by
      rcases old x m with rfl | rfl | ⟨q, nq, eq⟩
      · exact h.s0 (n0, kb) m0
      · exact st
      · exact h.s0 x (List.mem_of_getElem? eq)
    fr := fr'
    asn := by
      rw [List.flatMap_append, eq3]
      refine List.nodup_append.mpr ⟨h.asn, ?_, fun a ma c mc z => ?_⟩
      · rw [List.flatMap_cons, List.flatMap_nil, List.append_nil]; exact nda
      · rw [List.flatMap_cons, List.flatMap_nil, List.append_nil] at mc
        exact apn c mc (z ▸ ma)
    nmn := by
      rw [List.map_append, eq2]
      refine List.nodup_append.mpr ⟨h.nmn, by simp, fun a ma c mc z => ?_⟩
      rw [List.map_cons, List.map_nil, List.mem_singleton] at mc
      exact nmx (mc ▸ z ▸ ma) }
end
theorem OwnN.live {H : Hp} {o : Addr} {cs : List Addr} {w : Own} (h : OwnN H o cs w) : ∀ a ∈ o :: cs, ∃ x, H a = some x := fun a m => by
  cases w with
  | words t =>
    obtain ⟨rfl, g⟩ := h
    rw [List.mem_singleton.mp m]; exact ⟨_, g⟩
  | picture x y =>
    obtain ⟨rfl, g⟩ := h
    rw [List.mem_singleton.mp m]; exact ⟨_, g⟩
  | row x1 x2 x3 x4 x5 =>
    obtain ⟨rfl, g⟩ := h
    rw [List.mem_singleton.mp m]; exact ⟨_, g⟩
  | pile x1 x2 x3 =>
    obtain ⟨rfl, g⟩ := h
    rw [List.mem_singleton.mp m]; exact ⟨_, g⟩
  | grid sp ts us g l st =>
    obtain ⟨c, t, u, ws, xs, ys, rfl, h1, h2, h3, h4, h5, h6, h7⟩ := h
    simp only [List.mem_cons, List.not_mem_nil, or_false] at m
    rcases m with rfl | rfl | rfl | rfl
    · exact ⟨_, h1⟩
    · exact ⟨_, h2⟩
    · exact ⟨_, h4⟩
    · exact ⟨_, h6⟩
theorem NdAt.live {H : Hp} {n : Nd} {ks : List Addr} (h : NdAt H n ks) : ∀ a ∈ n.as, ∃ x, H a = some x := fun a m => by
  have m : a = n.b ∨ a = n.v ∨ a = n.o ∨ a = n.i ∨ a ∈ n.cs := by simpa [Nd.as] using m
  rcases m with rfl | rfl | rfl | rfl | m
  · exact ⟨_, h.hb⟩
  · exact ⟨_, h.hv⟩
  · exact h.ho.live _ List.mem_cons_self
  · exact ⟨_, h.hi⟩
  · exact h.ho.live a (List.mem_cons_of_mem _ m)
theorem TrI.succ {K : PySem.W.Frag} {H0 H : Hp} {s kn pB pD : Addr} {i : Nat} {T : PT} {ns : List Nk} {l : Addr → Nat} {ls : List (List Nat)} (h : TrI K H0 s kn pB pD i H T ns l ls) : TrI K H0 s kn pB pD (i + 1) H T ns l ls :=
  { h with ll := Nat.le_succ_of_le h.ll, ln := Nat.le_succ_of_le h.ln }
theorem atI_any {α : Type} {xs : List α} {z : Int} (h : z = -1 ∨ 0 ≤ z ∧ z < xs.length) (n : xs ≠ []) : ∃ (q : Nat) (v : α), xs[q]? = some v ∧ atI xs z = some v := by
  have l0 : 0 < xs.length := by cases xs with | nil => exact absurd rfl n | cons _ _ => exact Nat.succ_pos _
  rcases h with rfl | ⟨h0, h1⟩
  · refine ⟨xs.length - 1, xs[xs.length - 1], List.getElem?_eq_getElem (by omega), ?_⟩
    unfold atI ixN
    rw [if_neg (by omega), if_pos (by omega)]
    show xs[((-1 : Int) + (xs.length : Int)).toNat]? = _
    rw [show ((-1 : Int) + (xs.length : Int)).toNat = xs.length - 1 by omega]
    exact List.getElem?_eq_getElem (by omega)
  · obtain ⟨j, rfl⟩ := Int.eq_ofNat_of_zero_le h0
    have hj : j < xs.length := by omega
    refine ⟨j, xs[j], List.getElem?_eq_getElem hj, ?_⟩
    unfold atI ixN
    rw [if_pos h0, if_pos h1, Int.toNat_natCast]
    exact List.getElem?_eq_getElem hj
mutual
theorem mod_dep {b : Addr} {f : Nd → Nd} : ∀ t : PT, (t.mod b f id).dep = t.dep
  | .mk n ks => by
    rw [PT.mod]
    split
    · rw [PT.dep, PT.dep]; rfl
    · rw [PT.dep, PT.dep, modL_dep ks]
theorem modL_dep {b : Addr} {f : Nd → Nd} : ∀ ks : List PT, depL (modL b f id ks) = depL ks
  | [] => by rw [modL]
  | k :: ks => by rw [modL, depL, depL, mod_dep k, modL_dep ks]
end
/-- where the styling of a drawn tree stands -/
structure TrJ (K : PySem.W.Frag) (H0 : Hp) (s pB pN : Addr) (H : Hp) (T : PT) (ns : List Nk) (bs : List Addr) (nms : List (List Nat)) : Prop where
  dr : Dr s H0 H
  gB : H pB = some (.lst (bs.map V.ref))
  gN : H pN = some (.lst (nms.map fun l => .str (sO l)))
  pm : ns.Perm T.nodes
  rt : ∃ x, ns[0]? = some x ∧ x.1.b = T.n.b
  bse : bsN ns = bs
  nme : (ns.map fun x => x.1.nm) = nms
  nd : ∀ x ∈ ns, NdAt H x.1 x.2
  ok : ∀ x ∈ ns, NkOk K H x
  fr : ∀ x ∈ ns, ∀ a ∈ x.1.as, H0 a = none ∧ a ≠ s ∧ a ≠ pB ∧ a ≠ pN
  asn : (ns.flatMap fun x => x.1.as).Nodup
  nmn : nms.Nodup
  few : ns.length ≤ 40
  dep : T.dep ≤ 10
  tie : ∀ (j : Nat) (x : Nk), ns[j]? = some x → SzIn nms H (decide (j ≠ 0)) (x.1.st.getD 0 .non) ∧ SzIn nms H (decide (j ≠ 0)) (x.1.st.getD 1 .non)
theorem SzIn.up {nms : List (List Nat)} {H : Hp} {c : Bool} {v : V} (h : SzIn nms H c v) : SzIn nms H true v := by
  rcases h with h | h | ⟨_, h⟩ | h
  · exact .inl h
  · exact .inr (.inl h)
  · exact .inr (.inr (.inl ⟨rfl, h⟩))
  · exact .inr (.inr (.inr h))
theorem OkL.set {K : PySem.W.Frag} {H : Hp} {st : List V} {at_ : Nat} {v : V} (h : OkL K H st) (hv : OkF K H at_ v) : OkL K H (st.set at_ v) := ⟨by rw [List.length_set]; exact h.1, fun i w e => by
  rw [List.getElem?_set] at e
  split at e
  · next q =>
    split at e
    · cases e; exact q ▸ hv
    · cases e
  · exact h.2 i w e⟩
section
variable {K : PySem.W.Frag} {H0 H H1 : Hp} {s pB pN : Addr} {T : PT} {ns : List Nk} {bs : List Addr} {nms : List (List Nat)}
theorem TrJ.dr' (h : TrJ K H0 s pB pN H T ns bs nms) (d : Dr s H H1) (nB : pB ≠ s) (nN : pN ≠ s) : TrJ K H0 s pB pN H1 T ns bs nms :=
  { h with dr := h.dr.trans d, gB := d.app nB h.gB, gN := d.app nN h.gN, nd := fun x m => (h.nd x m).mv (d.ks h.dr.s) fun a ma xs g => d.app (h.fr x m a ma).2.1 g, ok := fun x m => (h.ok x m).ks (d.ks h.dr.s), tie := fun j x e => ⟨(h.tie j x e).1.ks (d.ks h.dr.s), (h.tie j x e).2.ks (d.ks h.dr.s)⟩ }
theorem TrJ.set (h : TrJ K H0 s pB pN H T ns bs nms) {j at_ : Nat} {n0 : Nd} {kb : List Addr} {v : V} (e : ns[j]? = some (n0, kb)) (a10 : at_ < 10) (hv : OkF K H at_ v) (hz : at_ < 2 → SzIn nms H (decide (j ≠ 0)) v)
    (b : But n0.v H H1) (g : H1 n0.v = some (.lst (n0.st.set at_ v))) : ∃ (T' : PT) (ns' : List Nk), TrJ K H0 s pB pN H1 T' ns' bs nms := by
  have m0 : (n0, kb) ∈ ns := List.mem_of_getElem? e
  have f0 := h.fr _ m0 n0.v (by simp [Nd.as])
  have k1 : KeepS H H1 := KeepS.refl.butL b (h.nd _ m0).hv
  have bn : (bsN T.nodes).Nodup := (h.pm.map (fun x : Nk => x.1.b)).nodup (bs_nodup h.asn)
  have pm' := mod_perm (b := n0.b) (f := fun x => { x with st := x.st.set at_ v }) (g := id) (h := id) (ex := []) (fun _ => rfl) (fun ks => List.Perm.refl _) (fun ks => rfl) h.pm bn e rfl
  rw [List.append_nil] at pm'
  have eq1 : ((ns.set j ({ n0 with st := n0.st.set at_ v }, kb)).map fun x => x.1.b) = ns.map fun x => x.1.b := set_map (fun x : Nk => x.1.b) e rfl
  have eq2 : ((ns.set j ({ n0 with st := n0.st.set at_ v }, kb)).map fun x => x.1.nm) = ns.map fun x => x.1.nm := set_map (fun x : Nk => x.1.nm) e rfl
  have eq3 : ((ns.set j ({ n0 with st := n0.st.set at_ v }, kb)).flatMap fun x => x.1.as) = ns.flatMap fun x => x.1.as := set_flat (fun x : Nk => x.1.as) e rfl
  have sl : n0.st.length = 10 := (h.ok _ m0).2.1.1
  have nda := as_nodup h.asn _ m0
  have fr' : ∀ x ∈ ns.set j ({ n0 with st := n0.st.set at_ v }, kb), ∀ a ∈ x.1.as, H0 a = none ∧ a ≠ s ∧ a ≠ pB ∧ a ≠ pN := fun x m => by
    rcases mem_set m with rfl | ⟨q, nq, eq⟩
    · exact h.fr (n0, kb) m0
    · exact h.fr x (List.mem_of_getElem? eq)
  refine ⟨T.mod n0.b (fun x => { x with st := x.st.set at_ v }) id, ns.set j ({ n0 with st := n0.st.set at_ v }, kb), ?_⟩
  exact {
    dr := ⟨h.dr.s.but b f0.2.1.symm, fun a o n1 g1 => b a o (ne_of_none g1 f0.1) (h.dr.b a o n1 g1)⟩
    gB := b.app f0.2.2.1.symm h.gB
    gN := b.app f0.2.2.2.symm h.gN
    pm := pm'
    rt := by
      obtain ⟨x, e0, eb⟩ := h.rt
      rw [mod_n (f := fun x => { x with st := x.st.set at_ v }) (fun _ => rfl)]
      have l0 : 0 < ns.length := (List.getElem?_eq_some_iff.mp e0).1
      by_cases hj : j = 0
      · subst hj
        rw [e] at e0
        cases e0
        exact ⟨({ n0 with st := n0.st.set at_ v }, kb), by rw [List.getElem?_set, if_pos rfl, if_pos l0], eb⟩
      · exact ⟨x, by rw [List.getElem?_set_ne hj]; exact e0, eb⟩
    bse := eq1.trans h.bse
    nme := eq2.trans h.nme
    nd := fun x m => by
      rcases mem_set m with rfl | ⟨q, nq, eq⟩
      · have o0 := h.nd _ m0
        have nv : n0.b ≠ n0.v ∧ n0.v ≠ n0.o ∧ n0.v ≠ n0.i ∧ n0.v ∉ n0.cs := by
          simp only [Nd.as, List.nodup_cons, List.mem_cons, not_or] at nda
          exact ⟨nda.1.1, nda.2.1.1, nda.2.1.2.1, nda.2.1.2.2⟩
        exact ⟨b.app nv.1 o0.hb, g, o0.ho.mv k1 fun a ma xs g1 => b.app (by
          rcases List.mem_cons.mp ma with rfl | ma
          · exact nv.2.1.symm
          · exact fun z => nv.2.2.2 (z ▸ ma)) g1, b.app nv.2.2.1.symm o0.hi⟩
      · exact (h.nd x (List.mem_of_getElem? eq)).mv k1 fun a ma xs g1 => b.app (fun z => as_apart h.asn eq e nq a ma (by rw [z]; simp [Nd.as])) g1
    ok := fun x m => by
      rcases mem_set m with rfl | ⟨q, nq, eq⟩
      · have o0 := h.ok _ m0
        exact NkOk.ks (H := H) ⟨o0.1, o0.2.1.set hv, o0.2.2⟩ k1
      · exact (h.ok x (List.mem_of_getElem? eq)).ks k1
    fr := fr'
    asn := by rw [eq3]; exact h.asn
    nmn := h.nmn
    few := by rw [List.length_set]; exact h.few
    dep := by rw [mod_dep]; exact h.dep
    tie := fun q x eq => by
      rw [List.getElem?_set] at eq
      split at eq
      · next z =>
        subst z
        split at eq
        · cases eq
          have t0 := h.tie j _ e
          have key : ∀ d, d < 2 → SzIn nms H (decide (j ≠ 0)) (n0.st.getD d .non) → SzIn nms H1 (decide (j ≠ 0)) ((n0.st.set at_ v).getD d .non) := fun d hd hh => by
            rw [List.getD_eq_getElem?_getD, List.getElem?_set]
            split
            · next z =>
              subst z
              rw [if_pos (by omega)]
              exact (hz hd).ks k1
            · rw [← List.getD_eq_getElem?_getD]
              exact hh.ks k1
          exact ⟨key 0 (by decide) t0.1, key 1 (by decide) t0.2⟩
        · cases eq
      · exact ⟨(h.tie q x eq).1.ks k1, (h.tie q x eq).2.ks k1⟩ }
theorem TrJ.done (h : TrJ K H0 s pB pN H T ns bs nms) : TrOk K H T ∧ ∀ x ∈ T.nodes, ∀ a ∈ x.1.as, H0 a = none ∧ a ≠ s := by
  have pmm : ∀ {x}, x ∈ T.nodes → x ∈ ns := fun m => h.pm.mem_iff.mpr m
  have nmp : (T.nodes.map fun x => x.1.nm).Perm nms := by rw [← h.nme]; exact (h.pm.map (fun x : Nk => x.1.nm)).symm
  have szp : ∀ {c : Bool} {v : V}, SzIn nms H c v → SzIn (T.nodes.map fun x => x.1.nm) H c v := fun hh => by
    rcases hh with hh | hh | hh | ⟨a, l, sd, m, e1, g, q⟩
    · exact .inl hh
    · exact .inr (.inl hh)
    · exact .inr (.inr (.inl hh))
    · exact .inr (.inr (.inr ⟨a, l, sd, m, e1, g, nmp.mem_iff.mpr q⟩))
  obtain ⟨x0, e0, eb⟩ := h.rt
  have hroot : x0.1 = T.n := by
    have mh : ∃ ks, (T.n, ks) ∈ T.nodes := by
      cases T with
      | mk n ks => exact ⟨_, by rw [PT.nodes]; exact List.mem_cons_self⟩
    obtain ⟨ks, mh⟩ := mh
    obtain ⟨q, eq⟩ := List.getElem?_of_mem (pmm mh)
    by_cases hq : q = 0
    · subst hq
      rw [e0] at eq
      cases eq
      rfl
    · exact absurd (show x0.1.b ∈ (T.n, ks).1.as by rw [eb]; simp [Nd.as]) (as_apart h.asn e0 eq (fun z => hq z.symm) x0.1.b (by simp [Nd.as]))
  refine ⟨{
    nd := fun x m => h.nd x (pmm m)
    ok := fun x m => h.ok x (pmm m)
    asn := (h.pm.flatMap_right (fun x : Nk => x.1.as)).nodup h.asn
    nmn := nmp.symm.nodup h.nmn
    dep := h.dep
    few := by rw [← h.pm.length_eq]; exact h.few
    ties := fun x m => by
      obtain ⟨q, eq⟩ := List.getElem?_of_mem (pmm m)
      exact ⟨szp (h.tie q x eq).1.up, szp (h.tie q x eq).2.up⟩
    root := by
      rw [← hroot]
      exact ⟨szp (h.tie 0 x0 e0).1, szp (h.tie 0 x0 e0).2⟩ }, fun x m a ma => ⟨(h.fr x (pmm m) a ma).1, (h.fr x (pmm m) a ma).2.1⟩⟩
end
end My

/-! ### plain boxes and boxes alike -/
namespace My
open PySem PySem.Spec PyProof.Rows L2
mutual
/-- what a box tells, without addresses -/
def At.ct : At → CT
  | .mk _ nm st o ks => .mk nm st o (actL ks)
def actL : List At → List CT
  | [] => []
  | k :: ks => k.ct :: actL ks
end
theorem actL_map : ∀ ks : List At, actL ks = ks.map At.ct
  | [] => by rw [actL]; rfl
  | k :: ks => by rw [actL, actL_map ks]; rfl
mutual
theorem act_dep : ∀ t : At, t.ct.dep = t.depth
  | .mk x nm st o ks => by rw [At.ct, CT.dep, At.depth, actL_dep ks]
theorem actL_dep : ∀ ks : List At, cdepL (actL ks) = depthL ks
  | [] => by rw [actL, cdepL, depthL]
  | k :: ks => by rw [actL, cdepL, depthL, act_dep k, actL_dep ks]
end
mutual
theorem act_pre : ∀ (t : At) (h : V), ((t.ct.pre h).map fun e => (e.1.nm, e.2)) = (t.pre h).map fun e => (e.2.1, e.2.2)
  | .mk x nm st o ks, h => by
    rw [At.ct, CT.pre, At.pre, List.map_cons, List.map_cons, actL_pre ks]
    rfl
theorem actL_pre : ∀ (ks : List At) (h : V), ((cpreL (actL ks) h).map fun e => (e.1.nm, e.2)) = (preL ks h).map fun e => (e.2.1, e.2.2)
  | [], h => by rw [actL, cpreL, preL]; rfl
  | k :: ks, h => by rw [actL, cpreL, preL, List.map_append, List.map_append, act_pre k, actL_pre ks]
end
mutual
theorem act_all : ∀ (t : At) (h : V), ((t.ct.pre h).map fun e => e.1) = t.all.map At.ct
  | .mk x nm st o ks, h => by
    rw [At.all, List.map_cons]
    rw [At.ct, CT.pre, List.map_cons, actL_all ks]
theorem actL_all : ∀ (ks : List At) (h : V), ((cpreL (actL ks) h).map fun e => e.1) = (allL ks).map At.ct
  | [], h => by rw [actL, cpreL, allL]; rfl
  | k :: ks, h => by rw [actL, cpreL, allL, List.map_append, List.map_append, act_all k, actL_all ks]
end
theorem At.ct_eq (t : At) : t.ct = .mk t.nm t.st t.own (t.kids.map At.ct) := by cases t; rw [At.ct, actL_map]; rfl
section
variable {K : PySem.W.Frag} {H H' : Hp}
theorem plL_at : ∀ {ks : List CT} {xs : List V}, PlAtL H ks xs → xs.length = ks.length ∧ ∀ (i : Nat) (x : V) (k : CT), xs[i]? = some x → ks[i]? = some k → PlAt H k x
  | [], xs, h => by
    rw [PlAtL] at h
    subst h
    exact ⟨rfl, fun i x k e => by cases e⟩
  | c :: ks, xs, h => by
    rw [PlAtL] at h
    obtain ⟨y, ys, rfl, h1, h2⟩ := h
    obtain ⟨l, q⟩ := plL_at h2
    refine ⟨by rw [List.length_cons, List.length_cons, l], fun i x k e1 e2 => ?_⟩
    match i, e1, e2 with
    | 0, e1, e2 => cases e1; cases e2; exact h1
    | i + 1, e1, e2 => exact q i x k e1 e2
theorem plL_of : ∀ {ks : List CT} {xs : List V}, xs.length = ks.length → (∀ (i : Nat) (x : V) (k : CT), xs[i]? = some x → ks[i]? = some k → PlAt H k x) → PlAtL H ks xs
  | [], xs, l, _ => by rw [PlAtL]; exact List.eq_nil_of_length_eq_zero l
  | c :: ks, [], l, _ => by cases l
  | c :: ks, y :: ys, l, h => by
    rw [PlAtL]
    exact ⟨y, ys, rfl, h 0 y c rfl rfl, plL_of (Nat.succ.inj l) fun i x k e1 e2 => h (i + 1) x k e1 e2⟩
theorem okL_at : ∀ {ks : List CT}, CtOkL K H ks → ∀ k ∈ ks, CtOk K H k
  | c :: ks, h, k, m => by
    rw [CtOkL] at h
    rcases List.mem_cons.mp m with rfl | m
    · exact h.1
    · exact okL_at h.2 k m
theorem dep_at : ∀ {ks : List CT} {k : CT}, k ∈ ks → k.dep ≤ cdepL ks
  | c :: ks, k, m => by
    rw [cdepL]
    rcases List.mem_cons.mp m with rfl | m
    · exact Nat.le_max_left _ _
    · exact Nat.le_trans (dep_at m) (Nat.le_max_right _ _)
theorem ownN_dp {o : Addr} {cs : List Addr} {w : Own} (h : OwnN H o cs w) : ∃ os, H o = some (.lst os) ∧ DpAll K H os ((pairsO w).map fun p => ovDL p.2) := by
  cases w with
  | words t => exact ⟨_, h.2, .cons (.str _) .nil⟩
  | picture a d => exact ⟨_, h.2, .cons (.int _) (.cons (.int _) .nil)⟩
  | row t g l p s => exact ⟨_, h.2, .cons (.bl _) (.cons (.int _) (.cons (.int _) (.cons (.str _) (.cons (.str _) .nil))))⟩
  | pile g p s => exact ⟨_, h.2, .cons (.int _) (.cons (.str _) (.cons (.str _) .nil))⟩
  | grid sp ts us g l s =>
    obtain ⟨c, t, u, ws, xs, ys, rfl, h1, h2, h3, h4, h5, h6, h7⟩ := h
    exact ⟨_, h1, .cons (.lst (sqL h2) (dp_sps h3)) (.cons (.lst (sqL h4) (dp_tks h5)) (.cons (.lst (sqL h6) (dp_tks h7)) (.cons (.int _) (.cons (.int _) (.cons (.str _) .nil)))))⟩
mutual
/-- a plain box is data -/
theorem pl_dp : ∀ t : CT, CtOk K H t → ∃ d : PyData, d.canLay0 = true ∧ d.depth ≤ 2 * t.dep + 2 ∧ ∀ H' v, Same H H' → PlAt H' t v → Dp K H' v d
  | .mk nm st ow ks, h => by
    rw [CtOk] at h
    obtain ⟨h1, h2, h3, h4, h5⟩ := h
    obtain ⟨fs, cf, df⟩ := sty_dps h2
    obtain ⟨ds, cd, dd⟩ := plL_dp ks h5
    have let127 : ∀ c ∈ lettersL, c < 127 := by decide +kernel
    have hc := h3.good.clean
    have cs : ∀ d ∈ (pairsO ow).map fun p => ovDL p.2, d.canLay0 = true ∧ d.depth ≤ 2 := fun d m => by
      obtain ⟨p, mp, rfl⟩ := List.mem_map.mp m
      exact ovDL_can (hc p mp)
    refine ⟨.list [.str (Str.ofString (kdW ow.kd)), .str (sO nm), .list fs, .list ((pairsO ow).map fun p => ovDL p.2), .list ds], ?_, ?_, fun H' v s p => ?_⟩
    · show (PyData.strOk _ && (PyData.strOk _ && (PyData.canLayAll0 _ && (PyData.canLayAll0 _ && (PyData.canLayAll0 _ && true))))) = true
      rw [strOk_of, strOk_sml fun c m => let127 c (h1.2.2 c m), canAll fun d m => (cf d m).1, canAll fun d m => (cs d m).1, canAll fun d m => (cd d m).1]
      rfl
    · have q1 := depAll fun d m => (cf d m).2
      have q2 := depAll fun d m => (cs d m).2
      have q3 := depAll fun d m => (cd d m).2
      rw [CT.dep]
      show max 0 (max 0 (max (PyData.depthAll fs + 1) (max (PyData.depthAll _ + 1) (max (PyData.depthAll ds + 1) 0)))) + 1 ≤ 2 * (cdepL ks + 1) + 2
      omega
    · rw [PlAt] at p
      obtain ⟨b, vv, o, i, cs', xs, rfl, g1, g2, g3, g4, g5⟩ := p
      obtain ⟨os, go, dw⟩ := ownN_dp (K := K) g3
      exact .lst (sqL g1) (.cons (.str _) (.cons (.str _) (.cons (.lst (sqL g2) (df H' s)) (.cons (.lst (sqL go) dw) (.cons (.lst (sqL g4) (dd H' xs s g5)) .nil)))))
theorem plL_dp : ∀ ks : List CT, CtOkL K H ks → ∃ ds : List PyData, (∀ d ∈ ds, d.canLay0 = true ∧ d.depth ≤ 2 * cdepL ks + 2) ∧ ∀ H' xs, Same H H' → PlAtL H' ks xs → DpAll K H' xs ds
  | [], _ => ⟨[], (fun d m => by cases m), fun H' xs _ p => by rw [PlAtL] at p; rw [p]; exact .nil⟩
  | k :: ks, h => by
    rw [CtOkL] at h
    obtain ⟨d, c1, e1, q1⟩ := pl_dp k h.1
    obtain ⟨ds, c2, q2⟩ := plL_dp ks h.2
    refine ⟨d :: ds, fun x m => ?_, fun H' xs s p => ?_⟩
    · rw [cdepL]
      rcases List.mem_cons.mp m with rfl | m
      · exact ⟨c1, by have := Nat.le_max_left k.dep (cdepL ks); omega⟩
      · exact ⟨(c2 x m).1, by have := (c2 x m).2; have := Nat.le_max_right k.dep (cdepL ks); omega⟩
    · rw [PlAtL] at p
      obtain ⟨y, ys, rfl, p1, p2⟩ := p
      exact .cons (q1 H' y s p1) (q2 H' ys s p2)
end
/-! #### in order -/
/-- the box's value, its holder's name, in a pair -/
def OrAt (H : Hp) (v : V) (e : CT × V) : Prop := ∃ (q : Addr) (x : V), v = .ref q ∧ H q = some (.tup [x, e.2]) ∧ PlAt H e.1 x
def OrsAt (H : Hp) (vs : List V) (es : List (CT × V)) : Prop := vs.length = es.length ∧ ∀ (i : Nat) (v : V) (e : CT × V), vs[i]? = some v → es[i]? = some e → OrAt H v e
theorem OrAt.same {v : V} {e : CT × V} (h : OrAt H v e) (s : Same H H') : OrAt H' v e := let ⟨q, x, e1, g, p⟩ := h; ⟨q, x, e1, s _ _ g, p.same s _ _⟩
theorem OrsAt.same {vs : List V} {es : List (CT × V)} (h : OrsAt H vs es) (s : Same H H') : OrsAt H' vs es := ⟨h.1, fun i v e a b => (h.2 i v e a b).same s⟩
theorem OrsAt.app {vs ws : List V} {es fs : List (CT × V)} (h : OrsAt H vs es) (k : OrsAt H ws fs) : OrsAt H (vs ++ ws) (es ++ fs) := ⟨by rw [List.length_append, List.length_append, h.1, k.1], fun i v e a b => by
  by_cases hi : i < vs.length
  · rw [List.getElem?_append_left hi] at a
    rw [List.getElem?_append_left (by rw [← h.1]; exact hi)] at b
    exact h.2 i v e a b
  · rw [List.getElem?_append_right (by omega)] at a
    rw [List.getElem?_append_right (by rw [← h.1]; omega), ← h.1] at b
    exact k.2 _ v e a b⟩
theorem OrsAt.one {q : Addr} {x h : V} {t : CT} (g : H q = some (.tup [x, h])) (p : PlAt H t x) : OrsAt H [.ref q] [(t, h)] := ⟨rfl, fun i v e a b => by
  match i, a, b with
  | 0, a, b => cases a; cases b; exact ⟨q, x, rfl, g, p⟩
  | n + 1, a, _ => cases a⟩
end
theorem cpreL_app : ∀ (a c : List CT) (h : V), cpreL (a ++ c) h = cpreL a h ++ cpreL c h
  | [], c, h => by rw [List.nil_append, cpreL, List.nil_append]
  | k :: a, c, h => by rw [List.cons_append, cpreL, cpreL, cpreL_app a c h, List.append_assoc]
theorem cpreL_snoc {ks : List CT} {i : Nat} {k : CT} (h : ks[i]? = some k) (v : V) : cpreL (ks.take (i + 1)) v = cpreL (ks.take i) v ++ k.pre v := by
  rw [List.take_add_one, h, cpreL_app]
  show cpreL _ v ++ cpreL [k] v = _
  rw [cpreL, cpreL, List.append_nil]
theorem cpreL_le (ks : List CT) (i : Nat) (v : V) : (cpreL (ks.take i) v).length ≤ (cpreL ks v).length := by
  conv => rhs; rw [← List.take_append_drop i ks, cpreL_app, List.length_append]
  omega
theorem CT.pre_eq (t : CT) (h : V) : t.pre h = (t, h) :: cpreL t.kids (.str (sO t.nm)) := by
  cases t; rw [CT.pre]; rfl
theorem CT.dep_eq (t : CT) : t.dep = cdepL t.kids + 1 := by cases t; rw [CT.dep]; rfl
/-! #### a plain box whose lists are all new -/
mutual
def PlF (P : Addr → Prop) (H : Hp) : CT → V → Prop
  | .mk nm st ow ks, v => ∃ (b vv o i : Addr) (cs : List Addr) (xs : List V), v = .ref b ∧ H b = some (.lst [sX (kdW ow.kd), .str (sO nm), .ref vv, .ref o, .ref i]) ∧ H vv = some (.lst st) ∧ OwnN H o cs ow ∧ H i = some (.lst xs) ∧ PlFL P H ks xs ∧ P b ∧ P vv ∧ P o ∧ P i ∧ ∀ a ∈ cs, P a
def PlFL (P : Addr → Prop) (H : Hp) : List CT → List V → Prop
  | [], xs => xs = []
  | k :: ks, xs => ∃ x ys, xs = x :: ys ∧ PlF P H k x ∧ PlFL P H ks ys
end
section
variable {K : PySem.W.Frag} {H H' : Hp} {P P' : Addr → Prop}
mutual
theorem PlF.pl : ∀ (t : CT) (v : V), PlF P H t v → PlAt H t v
  | .mk nm st ow ks, v, h => by
    rw [PlF] at h
    rw [PlAt]
    obtain ⟨b, vv, o, i, cs, xs, e, h1, h2, h3, h4, h5, _⟩ := h
    exact ⟨b, vv, o, i, cs, xs, e, h1, h2, h3, h4, PlFL.pl ks xs h5⟩
theorem PlFL.pl : ∀ (ks : List CT) (xs : List V), PlFL P H ks xs → PlAtL H ks xs
  | [], xs, h => h
  | k :: ks, xs, h => by
    rw [PlFL] at h
    rw [PlAtL]
    obtain ⟨x, ys, e, h1, h2⟩ := h
    exact ⟨x, ys, e, PlF.pl k x h1, PlFL.pl ks ys h2⟩
end
mutual
theorem PlF.mv (hP : ∀ a, P a → P' a) (k : KeepS H H') (hk : ∀ a xs, P a → H a = some (.lst xs) → H' a = some (.lst xs)) : ∀ (t : CT) (v : V), PlF P H t v → PlF P' H' t v
  | .mk nm st ow ks, v, h => by
    rw [PlF] at h ⊢
    obtain ⟨b, vv, o, i, cs, xs, e, h1, h2, h3, h4, h5, p1, p2, p3, p4, p5⟩ := h
    exact ⟨b, vv, o, i, cs, xs, e, hk _ _ p1 h1, hk _ _ p2 h2, h3.mv k fun a m xs g => hk a xs (by
      rcases List.mem_cons.mp m with rfl | m
      · exact p3
      · exact p5 a m) g, hk _ _ p4 h4, PlFL.mv hP k hk ks xs h5, hP _ p1, hP _ p2, hP _ p3, hP _ p4, fun a m => hP _ (p5 a m)⟩
theorem PlFL.mv (hP : ∀ a, P a → P' a) (k : KeepS H H') (hk : ∀ a xs, P a → H a = some (.lst xs) → H' a = some (.lst xs)) : ∀ (ks : List CT) (xs : List V), PlFL P H ks xs → PlFL P' H' ks xs
  | [], xs, h => h
  | c :: ks, xs, h => by
    rw [PlFL] at h ⊢
    obtain ⟨x, ys, e, h1, h2⟩ := h
    exact ⟨x, ys, e, PlF.mv hP k hk c x h1, PlFL.mv hP k hk ks ys h2⟩
end
theorem PlF.same {t : CT} {v : V} (h : PlF P H t v) (s : Same H H') : PlF P H' t v := h.mv (fun _ p => p) (Same.ks s) (fun a xs _ g => s _ _ g) t v
theorem PlF.but {D : Addr} {acc : List V} {t : CT} {v : V} (h : PlF P H t v) (n : ∀ a, P a → a ≠ D) (g : H D = some (.lst acc)) (b : But D H H') : PlF P H' t v := h.mv (fun _ p => p) (KeepS.refl.butL b g) (fun a xs p e => b.app (n a p) e) t v
theorem plFL_of : ∀ {ks : List CT} {xs : List V}, xs.length = ks.length → (∀ (i : Nat) (x : V) (k : CT), xs[i]? = some x → ks[i]? = some k → PlF P H k x) → PlFL P H ks xs
  | [], xs, l, _ => by rw [PlFL]; exact List.eq_nil_of_length_eq_zero l
  | c :: ks, [], l, _ => by cases l
  | c :: ks, y :: ys, l, h => by
    rw [PlFL]
    exact ⟨y, ys, rfl, h 0 y c rfl rfl, plFL_of (Nat.succ.inj l) fun i x k e1 e2 => h (i + 1) x k e1 e2⟩
end
section
variable {K : PySem.W.Frag} {a : Addr} {g : TG} {tt : TT} {te : TE} {vs : List Nat} {σ : L2.St} {H1 : Hp} {D : Addr} {Qd : Hp → Prop} {α : Type}
/-- over a tuple: items that are new objects -/
theorem lcTn (ρ0 : α → V) {ys : List α} (R : Nat → V → Hp → Prop) (mono : ∀ i v H H' acc, R i v H → H D = some (.lst acc) → But D H H' → R i v H') (hD : H1 D = none) (hx : SqT K H1 a (ys.map ρ0)) (hn : ys.length ≤ 100000)
    (hs : ∀ (i : Nat) (y : α) (H : Hp) (Kt : V → Hp → Prop) (Kf : Hp → Prop) (acc : List V), ys[i]? = some y → Same H1 H → H D = some (.lst acc) → (∀ v H4, Same H H4 → R i v H4 → Kt v H4) → LcT g tt te vs σ (ρ0 y) H Kt Kf)
    (hd : ∀ (us : List V) (H : Hp), Same H1 H → us.length = ys.length → (∀ (i : Nat) (b : V), us[i]? = some b → R i b H) → H D = some (.lst us) → Qd H) : LcG (Itt K a) g tt te vs σ H1 D Qd :=
  lcT (fun i acc H' => Same H1 H' ∧ acc.length = i ∧ ∀ (i : Nat) (b : V), acc[i]? = some b → R i b H')
    (fun H' s' _ => ⟨s', rfl, fun i b h => by cases h⟩) hD (fun i acc H' p => Same.seqT p.1 hx) (fun i x acc H' Kt Kf hxi p e kk => by
      obtain ⟨y, hy, rfl⟩ := of_map hxi
      have hi := (List.getElem?_eq_some_iff.mp hy).1
      obtain ⟨dp, hul, hub⟩ := p
      exact hs i y H' Kt Kf acc hy dp e fun b H4 s4 hR => kk.yes _ _ (s4 _ _ e) (Nat.lt_of_lt_of_le (show _ < 100001 by omega) (by decide)) fun H5 b5 g5 => ⟨Same.mut' (dp.trans s4) b5 hD, by rw [List.length_append, hul]; rfl, fun j c hc => by
        by_cases hj : j < acc.length
        · rw [List.getElem?_append_left hj] at hc
          exact mono _ _ _ _ _ (mono _ _ _ _ _ (hub j c hc) e (Same.but s4)) (s4 _ _ e) b5
        · have hj2 : j = i := by
            have := (List.getElem?_eq_some_iff.mp hc).1
            rw [List.length_append] at this
            simp at this; omega
          subst hj2
          rw [← hul, List.getElem?_concat_length] at hc
          cases hc; exact mono _ _ _ _ _ hR (s4 _ _ e) b5⟩)
    (fun acc H' p e => by
      obtain ⟨dp, hul, hub⟩ := p
      rw [List.length_map] at hul
      exact hd acc H' dp hul hub e)
end
theorem pick_at {bc : Kd → Addr} {S : Addr} {K : PySem.W.Frag} {H : Hp} : ∀ {us : List V} {ks : List CT}, us.length = ks.length → (∀ (j : Nat) (v : V), us[j]? = some v → ∃ (kk : CT) (a : At), ks[j]? = some kk ∧ v = .ref a.x ∧ a.ct = kk ∧ BoxAt bc S K H a) → ∃ as : List At, us = refs as ∧ as.map At.ct = ks ∧ ∀ a ∈ as, BoxAt bc S K H a
  | [], [], _, _ => ⟨[], rfl, rfl, fun a m => by cases m⟩
  | [], k :: ks, l, _ => by cases l
  | u :: us, [], l, _ => by cases l
  | u :: us, k :: ks, l, h => by
    obtain ⟨kk, a, e1, e2, e3, p⟩ := h 0 u rfl
    cases e1
    obtain ⟨as, q1, q2, q3⟩ := pick_at (us := us) (ks := ks) (Nat.succ.inj l) fun j v e => h (j + 1) v e
    refine ⟨a :: as, ?_, by rw [List.map_cons, q2, e3], fun x m => ?_⟩
    · rw [e2, q1]; rfl
    · rcases List.mem_cons.mp m with rfl | m
      · exact p
      · exact q3 x m
theorem act_nms (t : At) (h : V) : (t.ct.pre h).map (fun e => e.1.nm) = (t.pre h).map fun e => e.2.1 := by
  have := congrArg (List.map Prod.fst) (act_pre t h)
  rw [List.map_map, List.map_map] at this
  exact this
theorem act_len (t : At) (h : V) : (t.ct.pre h).length = (t.pre h).length := by
  have := congrArg List.length (act_nms t h)
  rwa [List.length_map, List.length_map] at this
/-- a plain box, its parts -/
theorem PlAt.parts {H : Hp} {t : CT} {v : V} (h : PlAt H t v) : ∃ (b vv o i : Addr), v = .ref b ∧ H b = some (.lst [sX (kdW t.ow.kd), .str (sO t.nm), .ref vv, .ref o, .ref i]) := by
  cases t with
  | mk nm st ow ks =>
    rw [PlAt] at h
    obtain ⟨b, vv, o, i, cs, xs, e, h1, _⟩ := h
    exact ⟨b, vv, o, i, e, h1⟩
mutual
theorem okPre {K : PySem.W.Frag} {H : Hp} : ∀ (t : CT) (h : V), CtOk K H t → ∀ e ∈ t.pre h, CtOk K H e.1
  | .mk nm st ow ks, h, ok, e, m => by
    rw [CT.pre] at m
    rcases List.mem_cons.mp m with rfl | m
    · exact ok
    · rw [CtOk] at ok
      exact okPreL ks _ ok.2.2.2.2 e m
theorem okPreL {K : PySem.W.Frag} {H : Hp} : ∀ (ks : List CT) (h : V), CtOkL K H ks → ∀ e ∈ cpreL ks h, CtOk K H e.1
  | [], h, ok, e, m => by rw [cpreL] at m; cases m
  | k :: ks, h, ok, e, m => by
    rw [cpreL] at m
    rw [CtOkL] at ok
    rcases List.mem_append.mp m with m | m
    · exact okPre k h ok.1 e m
    · exact okPreL ks h ok.2 e m
end
mutual
theorem depPre : ∀ (t : CT) (h : V), ∀ e ∈ t.pre h, e.1.dep ≤ t.dep
  | .mk nm st ow ks, h, e, m => by
    rw [CT.pre] at m
    rcases List.mem_cons.mp m with rfl | m
    · exact Nat.le_refl _
    · rw [CT.dep]
      exact Nat.le_succ_of_le (depPreL ks _ e m)
theorem depPreL : ∀ (ks : List CT) (h : V), ∀ e ∈ cpreL ks h, e.1.dep ≤ cdepL ks
  | [], h, e, m => by rw [cpreL] at m; cases m
  | k :: ks, h, e, m => by
    rw [cpreL] at m
    rw [cdepL]
    rcases List.mem_append.mp m with m | m
    · exact Nat.le_trans (depPre k h e m) (Nat.le_max_left _ _)
    · exact Nat.le_trans (depPreL ks h e m) (Nat.le_max_right _ _)
end
mutual
theorem all_x : ∀ (t : At) (h : V), ((t.pre h).map fun e => e.1) = t.all.map At.x
  | .mk x nm st o ks, h => by
    rw [At.all, At.pre, List.map_cons, List.map_cons, allL_x ks]
    rfl
theorem allL_x : ∀ (ks : List At) (h : V), ((preL ks h).map fun e => e.1) = (allL ks).map At.x
  | [], h => by rw [preL, allL]; rfl
  | k :: ks, h => by rw [preL, allL, List.map_append, List.map_append, all_x k, allL_x ks]
end
mutual
theorem box_all {bc : Kd → Addr} {S : Addr} {K : PySem.W.Frag} {H : Hp} : ∀ (t : At), BoxAt bc S K H t → ∀ b ∈ t.all, BoxAt bc S K H b
  | .mk x nm st o ks, h, b, m => by
    rw [At.all] at m
    rcases List.mem_cons.mp m with rfl | m
    · exact h
    · exact box_allL ks h.kid b m
theorem box_allL {bc : Kd → Addr} {S : Addr} {K : PySem.W.Frag} {H : Hp} : ∀ (ks : List At), (∀ k ∈ ks, BoxAt bc S K H k) → ∀ b ∈ allL ks, BoxAt bc S K H b
  | [], h, b, m => by rw [allL] at m; cases m
  | k :: ks, h, b, m => by
    rw [allL] at m
    rcases List.mem_append.mp m with m | m
    · exact box_all k (h k List.mem_cons_self) b m
    · exact box_allL ks (fun j mj => h j (List.mem_cons_of_mem _ mj)) b m
end
mutual
theorem pre_ho : ∀ (t : At) (h : V), ∀ e ∈ t.pre h, e.2.2 = h ∨ ∃ l, e.2.2 = V.str (sO l)
  | .mk x nm st o ks, h, e, m => by
    rw [At.pre] at m
    rcases List.mem_cons.mp m with rfl | m
    · exact .inl rfl
    · exact .inr ((preL_ho ks _ e m).elim (fun z => ⟨nm, z⟩) id)
theorem preL_ho : ∀ (ks : List At) (h : V), ∀ e ∈ preL ks h, e.2.2 = h ∨ ∃ l, e.2.2 = V.str (sO l)
  | [], h, e, m => by rw [preL] at m; cases m
  | k :: ks, h, e, m => by
    rw [preL] at m
    rcases List.mem_append.mp m with m | m
    · exact pre_ho k h e m
    · exact preL_ho ks h e m
end
/-- the box of a place in order -/
theorem pre_at {t : At} {h : V} {i : Nat} {e : CT × V} (he : (t.ct.pre h)[i]? = some e) : ∃ (b : At) (x : Addr × List Nat × V), b ∈ t.all ∧ (t.pre h)[i]? = some x ∧ e.1 = b.ct ∧ x.2.1 = b.nm ∧ x.2.2 = e.2 ∧ x.1 = b.x := by
  have e1 := congrArg (fun l => l[i]?) (act_pre t h)
  have e2 := congrArg (fun l => l[i]?) (act_all t h)
  have e3 := congrArg (fun l => l[i]?) (all_x t h)
  simp only [List.getElem?_map, he, Option.map_some] at e1 e2 e3
  cases hb : t.all[i]? with
  | none => rw [hb] at e2; cases e2
  | some b =>
    rw [hb] at e2 e3
    cases hx : (t.pre h)[i]? with
    | none => rw [hx] at e1; cases e1
    | some x =>
      rw [hx] at e1 e3
      simp only [Option.map_some, Option.some.injEq, Prod.mk.injEq] at e1 e2 e3
      refine ⟨b, x, List.mem_of_getElem? hb, rfl, e2, ?_, e1.2.symm, e3⟩
      rw [← e1.1, e2, At.ct_eq]
      rfl
theorem dnewc_i {σ : L2.St} {H : Hp} {Q : List V → Hp → Prop} (h : New H (.dK []) fun x H1 => Q [x] H1) : tCons tDNewA tNil σ H Q := h
end My

/-! ### a call of a local name in a try suite: the def may raise -/
namespace My
open PySem PySem.Spec PyProof.Rows L2
structure HeldX (P : Program) (w : World) (K : PySem.W.Frag) (mg : Str → Option Value) (base : Heap) (CX : CXT) (k : Nat) (f : Addr) (sp : Sp) : Prop where
  ex : ∃ (fd : FuncData) (ps : List Str), FnOk P w K mg base CX k f fd ps sp ∧ PySem.W.keepIn K (.ref f) = true ∧ Binds K fd ps []
def tCallAS (i : Nat) (S : Addr → Option Sp) (E : L2.St → XK) (t : TA) : TE := fun σ H Q => ∃ f sp, σ[i]? = some (some (.ref f)) ∧ S f = some sp ∧ t σ H fun vs H1 => sp vs H1 Q (E σ)
section
variable {X : Cx} {CX : CXT} {k i : Nat} {f : Addr} {fd : FuncData} {ps : List Str} {x : Str} {p pos : Pos} {e : Expr} {es : List Expr} {t : TA} {E : L2.St → XK}
theorem pe_callAS {S : Addr → Option Sp} (A : ∀ f sp, S f = some sp → HeldX X.prog X.w X.K X.mg X.base CX k f sp) (hr : Room k X.A) (hN : X.N[i]? = some x) (hv : Vis X.env.scope x) (hx : ∀ σ, PassesAt CX X σ (E σ)) (ha : PA X (e :: es) t)
    (hdb : (x == ("__debug__" : Str)) = false := by decide) (hcd : (x == ("__classdict__" : Str)) = false := by decide)
    (he : starEach (e :: es) X.env = (false, eval e X.env) :: starEach es X.env := by rfl) (hpl : (backTo pos (starEach es X.env)).any (·.1) = false := by rfl) : PE X (.Call (.Name x p) (e :: es) [] pos) (tCallAS i S E t) := by
  refine ⟨fun pins s σ H Q I h => ?_⟩
  obtain ⟨f, sp, hs, hS, ht⟩ := h
  obtain ⟨fd, ps, F, hk, hb⟩ := (A f sp hS).ex
  refine wpAny_Call_Name_kw (thn ((pe_var (pos := p) hN hv hdb hcd).run pins s σ H (fun v H1 => v = .ref f ∧ H1 = H) I ⟨.ref f, hs, rfl, rfl⟩) fun u s1 ⟨v, H1, I1, r1, q1⟩ => ?_)
  obtain ⟨rfl, rfl⟩ := q1
  cases r1
  refine PySem.W.callWith_K (h₀ := X.base) I.ok.mod.kin hk (thn (ha.run pos pins s1 σ _ _ I1 ht) fun us s2 ⟨vs, H2, I2, r, q⟩ => ⟨I2.kIn, ?_⟩) he hpl
  exact run_fnS F hr hb (hx σ) I2 r q
end
end My

/-! ### things of any kind: asked by isinstance, sought in a tuple of texts -/
namespace PySem.SeqAt
open MeetsSeq MeetsSeq2 MeetsSeq3
theorem my_str_eq_declines_dict (b : Str) (u : Tok) (l : Addr) (o : Obj) (ho : o.cls = .type "dict") (hp : ∀ z, o.data ≠ .prim z) :
    Meets (Builtin.«str.__eq__» ⟨[.str b u, .ref l], []⟩) (fun _ R s => s.heap.get? l = some o ∧ R (.ok (.ret .notImplemented)) s) :=
  .of_wp fun prog w A R s h => by obtain ⟨hpp, g, d, tk, os⟩ := s; obtain ⟨hl, h⟩ := h; obtain ⟨cls, dd2, data2, sl2⟩ := o; subst ho; have f1 := F.sub_dict_str; cases data2 <;> first | exact absurd rfl (hp _) | (wp_walk using _root_.PySem.AutoSeq1.wpAny_loadPart' hl; exact ⟨_, rfl, h⟩)
theorem my_dict_eq_declines {M : Unit} {prog : Program} {w : World} {A : Around} {E Q : Value → Shared → Prop} {s : Shared} {a : Addr} {b : Str} {u : Tok} (da : s.TypeIs (.ref a) "dict") (h : Q .notImplemented s) :
    wpAny (model prog w) A (call (.builtin "dict.__eq__") [.ref a, .str b u]) Q E s := by
  refine wpAny_call_entry PySem.F.slot_dict_eq_refl da PySem.F.entry_dict_eq ?_ (PySem.F.args_dict_eq_2 _ _)
  show wpAny _ _ (Builtin.Dict.dictSlotArgs "__eq__" ⟨[.ref a, .str b u], []⟩ >>= _) _ _ s
  refine wpAny_bind ?_
  unfold Builtin.Dict.dictSlotArgs
  refine wpAny_bind (wpAny_notOrdered_dict da ?_)
  show wpAny _ _ (pure (Value.ref a, Value.str b u)) _ _ s
  refine wpAny_pure ?_
  refine wpAny_bind (wpAny_isInstance (T := "str") (typeIs_str s b u) PySem.F.sub_str_dict ?_)
  simp only [Bool.not_false, if_true]
  exact wpAny_bind (wpAny_rule (wpAny_pure ⟨_, rfl, h⟩))
theorem RcAt.my_str_dict {A : Around} {s : Shared} {l : Addr} {o : Obj} (b : Str) (u : Tok) (ho : s.heap.get? l = some o) (oc : o.cls = .type "dict") (hp : ∀ z, o.data ≠ .prim z) (hu : A.units < cLine) : RcAt A s (.str b u) (.ref l) false := fun prog w E Q h => by
  exact rc_eq_decline_or (k := false) (typeIs_str s b u) ⟨_, ho, oc⟩ (by decide) F.sub_dict_str F.slot_str_eq F.slot_dict_eq_refl
    (fun _ hq => call_meets F.slot_str_eq (typeIs_str s b u) F.entry_str_eq (F.args_str_eq_2 _ _) (my_str_eq_declines_dict b u l o oc hp) ⟨ho, hq⟩)
    (fun _ hq => my_dict_eq_declines (M := ()) ⟨_, ho, oc⟩ hq)
    (fun _ hq => wpAny_of_eq (rfl : isSame (.str b u) (.ref l) = pure false) hq) (.inr hu) h
theorem EqAt.my_str_dict {A : Around} {s : Shared} {l : Addr} {o : Obj} (b : Str) (u : Tok) (ho : s.heap.get? l = some o) (oc : o.cls = .type "dict") (hp : ∀ z, o.data ≠ .prim z) (hu : A.units < cLine) : EqAt A s (.str b u) (.ref l) false := fun prog w E Q h => by
  unfold eqBool
  refine wpAny_holding ?_
  refine wpAny_ite_split (fun hab => absurd (eq_of_beq hab) nofun) (fun _ => ?_)
  exact wpAny_bind (RcAt.my_str_dict b u ho oc hp hu prog w E _ (wpAny_truthy_bool h))
end PySem.SeqAt
namespace My
open PySem PySem.Spec PyProof.Rows L2
/-! #### instances among plain things -/
theorem kit_ownT {K : PySem.W.Frag} {C : Addr} {b : Bool} {n : String} (h : PySem.W.subIn K (.ref C) (.type n) = some b) (m : PySem.W.kitMeta n = true := by decide +kernel) : PySem.W.kitOne K (.ref C) (.type n) = some b := by
  unfold PySem.W.kitOne
  split
  · next q =>
    have z : (Value.ref C) = .type n := beq_iff_eq.mp q
    cases z
  · show (if PySem.W.kitMeta n = true then PySem.W.subIn K (.ref C) (.type n) else none) = some b
    rw [if_pos m]
    exact h
/-- what isinstance asks of the own class C: it is none of the builtin ones -/
structure Pl (K : PySem.W.Frag) (C : Addr) : Prop where
  cl : Cls K C
  ha : PySem.W.findIn K (.ref C) "__class__" = some (some (.builtin "object.__class__"))
  hn : PySem.W.specialIn K (.builtin "object.__class__") "__get__" = some (some (.builtin "getset_descriptor.__get__"))
  ht : PySem.W.takesIn K (.builtin "object.__class__") = some true
  hm : PySem.W.mroIn K C (.type "object") = some true
  ki : PySem.W.kitOne K (.ref C) (.type "int") = some false
  kb : PySem.W.kitOne K (.ref C) (.type "bool") = some false
  ks : PySem.W.kitOne K (.ref C) (.type "str") = some false
  kt : PySem.W.kitOne K (.ref C) (.type "tuple") = some false
  kl : PySem.W.kitOne K (.ref C) (.type "list") = some false
inductive Ty8 (K : PySem.W.Frag) (H : Hp) : V → String → Prop
  | of {x : V} {t : String} (h : Ty7 H x t) : Ty8 K H x t
  | ins {a C dx : Addr} {fs : List (Str × V)} (h : H a = some (.ins C dx fs)) (p : Pl K C) : Ty8 K H (.ref a) "object"
section
variable {K : PySem.W.Frag} {H H' : Hp} {x : V} {t : String}
theorem Ty8.same (h : Ty8 K H x t) (s : Same H H') : Ty8 K H' x t := by
  cases h with
  | of h => exact .of (h.mono s)
  | ins h p => exact .ins (s _ _ h) p
def rIs8 (K : PySem.W.Frag) (T : String) (ans : V → String → Bool) : List V → Hp → VK → Prop := fun xs H Q => ∃ x t, xs = [x, .ty T] ∧ Ty8 K H x t ∧ Q (.bl (ans x t)) H
theorem call_isTy8 {X : Cx} (hK : X.K = K) (T : String) (ans : V → String → Bool) (h : ∀ H x t, Ty7 H x t → kitB t T = some (ans x t)) (h2 : ∀ a C, Pl K C → PySem.W.kitOne K (.ref C) (.type T) = some (ans (.ref a) "object")) : CallR X (.builtin "isinstance") (rIs8 K T ans) := by
  subst hK
  exact callR_imp call_isi fun _ H Q ⟨x, t, e, ht, q⟩ => by
    cases ht with
    | of ht => exact ⟨x, _, _, _, _, e, .ty _, ht.tx, kit_ty (h H x t ht), q⟩
    | ins hg p => exact ⟨_, _, _, _, _, e, .ty _, .base (.ins hg p.cl p.ha p.hn p.ht p.hm), h2 _ _ p, q⟩
end
section
variable {X : Cx} {K : PySem.W.Frag} (hK : X.K = K)
include hK
theorem is_list8 : CallR X (.builtin "isinstance") (rIs8 K "list" fun _ t => decide (t = "list")) := call_isTy8 hK _ _ (fun _ _ _ h => h.kl) fun _ _ p => p.kl
theorem is_tuple8 : CallR X (.builtin "isinstance") (rIs8 K "tuple" fun _ t => decide (t = "tuple")) := call_isTy8 hK _ _ (fun _ _ _ h => h.kt) fun _ _ p => p.kt
theorem is_str8 : CallR X (.builtin "isinstance") (rIs8 K "str" fun _ t => decide (t = "str")) := call_isTy8 hK _ _ (fun _ _ _ h => h.ks) fun _ _ p => p.ks
theorem is_int8 : CallR X (.builtin "isinstance") (rIs8 K "int" fun x _ => isI x || isB x) := call_isTy8 hK _ _ (fun _ _ _ h => h.ki) fun _ _ p => p.ki
theorem is_bool8 : CallR X (.builtin "isinstance") (rIs8 K "bool" fun x _ => isB x) := call_isTy8 hK _ _ (fun _ _ _ h => h.kb) fun _ _ p => p.kb
end
def rIsT8 (K : PySem.W.Frag) : List V → Hp → VK → Prop := fun xs H Q => ∃ x, xs = [x, .ty "tuple"] ∧ ((∃ t, Ty8 K H x t ∧ Q (.bl (decide (t = "tuple"))) H) ∨ ∃ (a : Addr) (ys : List V), x = .ref a ∧ SqT K H a ys ∧ Q (.bl true) H)
theorem is_tuple9 {X : Cx} {K : PySem.W.Frag} (hK : X.K = K) : CallR X (.builtin "isinstance") (rIsT8 K) := by
  intro pins s σ H xs us Q I r h
  obtain ⟨x, rfl, ⟨t, h8, q⟩ | ⟨a, ys, rfl, hs, q⟩⟩ := h
  · exact is_tuple8 hK pins s σ H _ us Q I r ⟨x, t, rfl, h8, q⟩
  · exact call_isTupK hK pins s σ H _ us Q I r (.inr ⟨a, ys, rfl, hs, q⟩)
/-! #### sought in a tuple of texts -/
def isSt (ts : List Str) : V → Bool
  | .str s => decide (s ∈ ts)
  | _ => false
def rIn7 (K : PySem.W.Frag) (neg : Bool) : R2 := fun x y H Q => ∃ (p : Addr) (ts : List Str) (t : String), y = .ref p ∧ SqT K H p (ts.map V.str) ∧ Ty7 H x t ∧ Q (.bl (if neg = true then !(isSt ts x) else isSt ts x)) H
def eqS7 (u : Value) (x : V) : Bool :=
  match u, x with
  | .str s _, .str s' => s == s'
  | _, _ => false
theorem any_eqS7 {x : V} : ∀ {ts : List Str} {us : List Value}, Vals (ts.map V.str) us → us.any (fun u => eqS7 u x) = isSt ts x
  | [], _, .nil => by cases x <;> rfl
  | t :: ts, _, .cons r v => by
    obtain ⟨tk, rfl⟩ := (show ∃ tk, _ = Value.str t tk from r)
    rw [List.any_cons, any_eqS7 v]
    cases x with
    | str s =>
      show ((t == s) || decide (s ∈ ts)) = decide (s ∈ t :: ts)
      by_cases e : t = s
      · subst e; simp
      · rw [show (t == s) = false from beq_false_of_ne e]
        rw [Bool.false_or]; exact decide_eq_decide.mpr ⟨fun m => List.mem_cons_of_mem _ m, fun m => (List.mem_cons.mp m).elim (fun z => absurd z.symm e) id⟩
    | _ => rfl
theorem eq_at7 {X : Cx} {A : Around} {pins : List (Addr × Obj)} {σ : L2.St} {H : Hp} {s : Shared} {x : V} {v : Value} {t : String} (h1 : A.units < cLine) (I : Inv X pins σ H s) (rx : RelV x v) (h7 : Ty7 H x t) : ∀ {ts : List Str} {us : List Value}, Vals (ts.map V.str) us → ∀ u ∈ us, SeqAt.EqAt A s u v (eqS7 u x)
  | [], _, .nil, u, m => by cases m
  | z :: ts, _, .cons r vv, u, m => by
    rcases List.mem_cons.mp m with rfl | m
    · obtain ⟨tk, rfl⟩ := (show ∃ tk, u = Value.str z tk from r)
      cases h7 with
      | non => cases (show v = Value.none from rx); exact SeqAt.EqAt.str_none _ _
      | bl b => cases (show v = Value.bool b from rx); exact SeqAt.EqAt.str_bool _ _ _
      | int i => obtain ⟨tk', rfl⟩ := (show ∃ tk, v = Value.int i tk from rx); exact SeqAt.EqAt.str_int _ _ _ _
      | str i => obtain ⟨tk', rfl⟩ := (show ∃ tk, v = Value.str i tk from rx); exact SeqAt.EqAt.str_str _ _ _ _
      | lst g =>
        cases (show v = Value.ref _ from rx)
        obtain ⟨us, r1, p1, _⟩ := I.list (sqL g)
        exact SeqAt.EqAt.str_list _ _ p1.isList h1
      | tup g =>
        cases (show v = Value.ref _ from rx)
        obtain ⟨us, r1, p1, _⟩ := I.tuple (sqT g)
        exact SeqAt.EqAt.str_tuple _ _ p1 h1
      | dK g =>
        cases (show v = Value.ref _ from rx)
        obtain ⟨_, _, vs, _, d⟩ := I.hok _ _ g
        obtain ⟨o, es, ep, ho, hx, hdt, _⟩ := id d
        exact SeqAt.EqAt.my_str_dict _ _ ho hx.1 (fun z e => by rw [hdt] at e; cases e) h1
    · exact eq_at7 h1 I rx h7 vv u m
theorem op_in7 {X : Cx} {K : PySem.W.Frag} (hu : X.A.units + 64 < cLine) (hK : X.K = K) : OpR X (compareOp .In) (rIn7 K false) := by
  subst hK
  intro pins s σ H x y v u Q I rx ry h
  obtain ⟨p, ts, t, rfl, hq, h7, q⟩ := h
  cases ry
  obtain ⟨its, r, pl, hz⟩ := I.tuple hq
  refine SeqAt.in_tupleAt (fun w => eqS7 w x) pl (fun w hw => eq_at7 (show X.A.units + 1 < cLine by omega) I rx h7 r w (by simpa using hw)) ⟨.bl _, H, I, rfl, ?_⟩
  rw [show its.toArray.any (fun w => eqS7 w x) = its.any (fun w => eqS7 w x) by simp, any_eqS7 r]
  exact q
theorem op_notIn7 {X : Cx} {K : PySem.W.Frag} (hu : X.A.units + 64 < cLine) (hK : X.K = K) : OpR X (compareOp .NotIn) (rIn7 K true) := by
  subst hK
  intro pins s σ H x y v u Q I rx ry h
  obtain ⟨p, ts, t, rfl, hq, h7, q⟩ := h
  cases ry
  obtain ⟨its, r, pl, hz⟩ := I.tuple hq
  refine SeqAt.notIn_tupleAt (fun w => eqS7 w x) pl (fun w hw => eq_at7 (show X.A.units + 1 < cLine by omega) I rx h7 r w (by simpa using hw)) ⟨.bl _, H, I, rfl, ?_⟩
  rw [show its.toArray.any (fun w => eqS7 w x) = its.any (fun w => eqS7 w x) by simp, any_eqS7 r]
  exact q
end My

/-! ### a good plain tree, the boxes made of it -/
namespace My
open PySem PySem.Spec PyProof.Rows L2
section
variable {K : PySem.W.Frag} {H : Hp} {t : PT} {a : At}
theorem nms_of (e : a.ct = t.ct) : (a.pre .non).map (fun e => e.2.1) = t.nodes.map fun x => x.1.nm := by
  rw [← act_nms, e]
  have := congrArg (List.map Prod.fst) (ct_pre t .non)
  rw [List.map_map, List.map_map] at this
  exact this
theorem TrOk.tin (h : TrOk K H t) (e : a.ct = t.ct) : TreeIn H a where
  nd := by
    have : ((a.pre .non).map fun e => e.2.1).Nodup := by rw [nms_of e]; exact h.nmn
    exact this
  ties := fun b m => by
    have en : ((a.pre .non).map fun e => e.2.1) = t.nodes.map fun x => x.1.nm := nms_of e
    have m1 : b.ct ∈ (a.ct.pre .non).map fun e => e.1 := by rw [act_all]; exact List.mem_map.mpr ⟨b, m, rfl⟩
    rw [e] at m1
    obtain ⟨p, mp, ep⟩ := List.mem_map.mp m1
    have m2 : (p.1.nm, p.1.st) ∈ t.nodes.map fun x => (x.1.nm, x.1.st) := by rw [← ct_pre t .non]; exact List.mem_map.mpr ⟨p, mp, rfl⟩
    obtain ⟨x, mx, ex⟩ := List.mem_map.mp m2
    have es : x.1.st = b.st := by
      have : x.1.st = p.1.st := (Prod.mk.inj ex).2
      rw [this, ep, At.ct_eq]
      rfl
    have q := h.ties x mx
    rw [es] at q
    show SzIn ((a.pre .non).map fun e => e.2.1) H true _ ∧ SzIn ((a.pre .non).map fun e => e.2.1) H true _
    rw [en]
    exact q
  root := by
    have en : ((a.pre .non).map fun e => e.2.1) = t.nodes.map fun x => x.1.nm := nms_of e
    have es : t.n.st = a.st := by rw [← PT.ct_st, ← e, At.ct_eq]; rfl
    have q := h.root
    rw [es] at q
    show SzIn ((a.pre .non).map fun e => e.2.1) H false _ ∧ SzIn ((a.pre .non).map fun e => e.2.1) H false _
    rw [en]
    exact q
theorem TrOk.deep (h : TrOk K H t) (e : a.ct = t.ct) : a.depth ≤ 10 := by rw [← act_dep, e, ct_dep]; exact h.dep
theorem TrOk.cdeep (h : TrOk K H t) : t.ct.dep ≤ 10 := by rw [ct_dep]; exact h.dep
theorem TrOk.len (h : TrOk K H t) (e : a.ct = t.ct) : (a.pre .non).length ≤ 40 := by
  have := congrArg List.length (nms_of e)
  rw [List.length_map, List.length_map] at this
  rw [this]; exact h.few
theorem TrOk.pl (h : TrOk K H t) : PlAt H t.ct (.ref t.n.b) := pt_pl t h.nd
theorem TrOk.ctok (h : TrOk K H t) : CtOk K H t.ct := pt_ok t h.ok
theorem TrOk.nmok (h : TrOk K H t) (e : a.ct = t.ct) : ∀ l ∈ (a.pre .non).map (fun e => e.2.1), NameOk l := fun l m => by
  rw [nms_of e] at m
  obtain ⟨x, mx, rfl⟩ := List.mem_map.mp m
  exact (h.ok x mx).1
end
theorem pre_pos (a : At) (h : V) : 1 ≤ (a.pre h).length := by rw [a.pre_eq]; exact Nat.succ_le_succ (Nat.zero_le _)
end My

namespace My
open PySem PySem.Spec PyProof.Rows L2
section
variable {P : Program} {w : World} {K : PySem.W.Frag} {mg : Str → Option Value} {base : Heap}
def sp_is_whole : Sp := fun vs H Q _ => ∃ (x : V) (t : String), vs = [x] ∧ Ty7 H x t ∧ Q (.bl (isI x)) H
theorem ok_is_whole (T : Tx w K mg) : FnOk P w K mg base CX0 1 T.d_is_whole.f T.d_is_whole.fd ["thing"] (sp_is_whole) := by
  refine T.d_is_whole.F.ok sc_is_whole (fun vs H Q E h => ?_) (fun cdv A outer s H vs Q E hr h => ?_)
  · obtain ⟨x, t, rfl, _⟩ := h
    rfl
  · obtain ⟨x, t, rfl, ht, k⟩ := h
    refine ⟨_, (pss_one (ps_ret (pe_and (pe_callB is_int (by rfl) T.b_isinstance (by decide +kernel) (pa_cons (pv 0) (pa_cons (pe_bltn (v := .ty "int") (by rfl) T.b_int (by decide +kernel) rfl) pa_nil))) (pe_one (pe_not (pe_callB is_bool (by rfl) T.b_isinstance (by decide +kernel) (pa_cons (pv 0) (pa_cons (pe_bltn (v := .ty "bool") (by rfl) T.b_bool (by decide +kernel) rfl) pa_nil)))))))), ?_⟩
    tm_at "rds"
    refine ite2 (fun e => ?_) (fun e => ?_)
    · tm_at "rds"
      rw [isI_bool e]
      exact k
    · rw [isI_no e]
      exact k
end
end My
namespace My
open PySem PySem.Spec PyProof.Rows L2
section
variable {P : Program} {w : World} {K : PySem.W.Frag} {mg : Str → Option Value} {base : Heap}
def sp_is_count : Sp := fun vs H Q _ => ∃ (x : V) (t : String), vs = [x] ∧ Ty7 H x t ∧ Q (.bl (isN x)) H
theorem ok_is_count (T : Tx w K mg) : FnOk P w K mg base CX0 2 T.d_is_count.f T.d_is_count.fd ["thing"] (sp_is_count) := by
  refine T.d_is_count.F.ok sc_is_count (fun vs H Q E h => ?_) (fun cdv A outer s H vs Q E hr h => ?_)
  · obtain ⟨x, t, rfl, _⟩ := h
    rfl
  · obtain ⟨x, t, rfl, ht, k⟩ := h
    refine ⟨_, (pss_one (ps_ret (pe_and (pe_call (ok_is_whole T) (hr.mono (by decide)) (by rfl) T.d_is_whole.g T.d_is_whole.F.kp T.d_is_whole.b .nil pass0 (pa_cons (pv 0) pa_nil)) (pe_one (pe_cmpR op_ge (pv 0) pe_int (nomark _)))))), ?_⟩
    refine ⟨_, rfl, x, t, rfl, ht, ?_⟩
    tm_at "rds"
    refine ite2 (fun e => ?_) (fun e => ?_)
    · obtain ⟨i, rfl⟩ := isI_of e
      tm_at "rds"
      exact k
    · have : false = isN x := by cases x <;> simp_all [isI, isN]
      rw [this]
      exact k
end
end My
namespace My
open PySem PySem.Spec PyProof.Rows L2
section
variable {P : Program} {w : World} {K : PySem.W.Frag} {mg : Str → Option Value} {base : Heap}
def sp_is_name : Sp := fun vs H Q _ => ∃ (l : List Nat), vs = [.str (sO l)] ∧ NameOk l ∧ ∀ H', Same H H' → Q (.bl true) H'
theorem ok_is_name (T : Tx w K mg) : FnOk P w K mg base CX0 1 T.d_is_name.f T.d_is_name.fd ["thing"] (sp_is_name) := by
  refine T.d_is_name.F.ok sc_is_name (fun vs H Q E h => ?_) (fun cdv A outer s H vs Q E hr h => ?_)
  · obtain ⟨l, rfl, _⟩ := h
    rfl
  · obtain ⟨l, rfl, ⟨l1, l2, lc⟩, k⟩ := h
    refine ⟨_, (pss_cons (ps_if (PW.pt (pw_or (pt_not (pt_val (pe_callB is_str (by rfl) T.b_isinstance (by decide +kernel) (pa_cons (pv 0) (pa_cons (pe_bltn (v := .ty "str") (by rfl) T.b_str (by decide +kernel) rfl) pa_nil))))) (pw_or1 (pt_not (pt_chain op_le op_le pe_int (pe_callB (call_lenK (K := K) rfl) (by rfl) T.b_len (by decide +kernel) (pa_cons (pv 0) pa_nil)) (pe_glob (v := .int 8) (by rfl) T.v_LONGEST T.r_LONGEST))))))
      (pss_one (ps_ret pe_bl))
      pss_nil)
      (pss_one (ps_ret (pe_callB (cr_allK (K := K) rfl rfl) (by rfl) T.b_all (by decide +kernel) (pa_cons (pe_lc (own := [("sign", 1)]) (g := gName 1) (by rfl) sc_is_name.nd (pi_str (pv 0)) (blkOk_by (own := [("sign", 1)]) (N := N_is_name) (sc := defScope s_is_name) (by decide +kernel)) (fun _ _ _ _ _ => (pg_name (i := 1) sc_is_name.nd rfl (Or.inl rfl))) (fun _ _ _ _ _ => pts_nil) (fun _ _ _ _ _ => (pe_cmpR op_in_sign (pv 1) (pe_glob (v := .str (Str.ofString "abcdefghijklmnopqrstuvwxyz")) (by rfl) T.v_LETTERS T.r_LETTERS) (by rfl)))) pa_nil))))), ?_⟩
    tm_at "rzs"
    refine ⟨_, l.length, rfl, ⟨by show l.toArray.size ≤ sizeLine; rw [List.size_toArray, sizeLine_eq]; omega, by show l.length = l.toArray.size; rw [List.size_toArray]⟩, ?_⟩
    tm_at "rds"
    refine iteT' (decide_eq_true (by omega)) ?_
    tm_at "rds"
    refine iteF' (by rw [decide_eq_true (by omega)]; rfl) ?_
    tm_at "rds"
    refine fun D hD => lcSc (v := .bl true) hD (by omega) (fun i c H1 Kt Kf hc s1 kt => ?_) (fun H1 s1 g1 => ?_)
    · tm_at "rds"
      show Kt (V.bl (decide (c ∈ lettersL))) H1
      rw [decide_eq_true (lc c (List.mem_of_getElem? hc))]
      exact kt _ (Same.refl _)
    rw [reps_bl] at g1
    tm_at "rzs"
    refine ⟨D, _, rfl, sqL g1, ?_⟩
    rw [reps_all]
    exact k H1 s1
end
end My
namespace My
open PySem PySem.Spec PyProof.Rows L2
section
variable {P : Program} {w : World} {K : PySem.W.Frag} {mg : Str → Option Value} {base : Heap}
def sp_is_share : Sp := fun vs H Q _ => ∃ (x : V) (t : String), vs = [x] ∧ Ty7 H x t ∧ Q (.bl (decide (t = "tuple"))) H
theorem ok_is_share (T : Tx w K mg) : FnOk P w K mg base CX0 1 T.d_is_share.f T.d_is_share.fd ["track"] (sp_is_share) := by
  refine T.d_is_share.F.ok sc_is_share (fun vs H Q E h => ?_) (fun cdv A outer s H vs Q E hr h => ?_)
  · obtain ⟨x, t, rfl, _⟩ := h
    rfl
  · obtain ⟨x, t, rfl, ht, k⟩ := h
    refine ⟨_, (pss_one (ps_ret (pe_callB is_tuple (by rfl) T.b_isinstance (by decide +kernel) (pa_cons (pv 0) (pa_cons (pe_bltn (v := .ty "tuple") (by rfl) T.b_tuple (by decide +kernel) rfl) pa_nil))))), ?_⟩
    tm_at "rds"
    exact k
end
end My
namespace My
open PySem PySem.Spec PyProof.Rows L2
section
variable {P : Program} {w : World} {K : PySem.W.Frag} {mg : Str → Option Value} {base : Heap}
def sp_is_track : Sp := fun vs H Q _ => ∃ (x : V) (t : Tk), vs = [x] ∧ TkAt H x t ∧ t.ok ∧ Q (.bl true) H
theorem ok_is_track (T : Tx w K mg) : FnOk P w K mg base CX0 3 T.d_is_track.f T.d_is_track.fd ["thing"] (sp_is_track) := by
  refine T.d_is_track.F.ok sc_is_track (fun vs H Q E h => ?_) (fun cdv A outer s H vs Q E hr h => ?_)
  · obtain ⟨x, t, rfl, _⟩ := h
    rfl
  · obtain ⟨x, t, rfl, ht, ok, k⟩ := h
    refine ⟨_, (pss_cons (ps_if (pt_val (pe_call (ok_is_share T) (hr.mono (by decide)) (by rfl) T.d_is_share.g T.d_is_share.F.kp T.d_is_share.b .nil pass0 (pa_cons (pv 0) pa_nil)))
      (pss_one (ps_ret (pe_and (pe_cmpR op_eq (pe_callB (call_lenK (K := K) rfl) (by rfl) T.b_len (by decide +kernel) (pa_cons (pv 0) pa_nil)) pe_int (nomark _)) (pe_and (pe_cmpR op_eq (pe_ix (ix_tupK (K := K) rfl) (pv 0) pe_int (fun _ _ => rfl)) pe_str (nomark _)) (pe_and (pe_call (ok_is_whole T) (hr.mono (by decide)) (by rfl) T.d_is_whole.g T.d_is_whole.F.kp T.d_is_whole.b .nil pass0 (pa_cons (pe_ix (ix_tupK (K := K) rfl) (pv 0) pe_int (fun _ _ => rfl)) pa_nil)) (pe_one (pe_cmpR op_ge (pe_ix (ix_tupK (K := K) rfl) (pv 0) pe_int (fun _ _ => rfl)) pe_int (nomark _))))))))
      pss_nil)
      (pss_one (ps_ret (pe_or (pe_call (ok_is_count T) (hr.mono (by decide)) (by rfl) T.d_is_count.g T.d_is_count.F.kp T.d_is_count.b .nil pass0 (pa_cons (pv 0) pa_nil)) (pe_one (pe_and (pe_callB is_str (by rfl) T.b_isinstance (by decide +kernel) (pa_cons (pv 0) (pa_cons (pe_bltn (v := .ty "str") (by rfl) T.b_str (by decide +kernel) rfl) pa_nil))) (pe_one (pe_cmpR op_eq (pv 0) pe_str (nomark _))))))))), ?_⟩
    cases t with
    | cells n =>
      have e : x = .int n := ht
      subst e
      tm_at "rzs"
      refine iteT' (decide_eq_true ok) ?_
      exact k
    | fit =>
      have e : x = .str "fit" := ht
      subst e
      tm_at "rzs"
      exact k
    | share j =>
      obtain ⟨r, rfl, g⟩ := ht
      tm_at "rzs"
      dsimp only
      rw [decide_eq_true (show 1 ≤ j from ok)]
      exact k
end
end My
namespace My
open PySem PySem.Spec PyProof.Rows L2
section
variable {P : Program} {w : World} {K : PySem.W.Frag} {mg : Str → Option Value} {base : Heap}
def sp_are_tracks (K : PySem.W.Frag) : Sp := fun vs H Q _ => ∃ (a : Addr) (xs : List V) (ts : List Tk), vs = [.ref a] ∧ H a = some (.lst xs) ∧ TksAt H xs ts ∧ (∀ t ∈ ts, t.ok) ∧ ts ≠ [] ∧ ts.length ≤ 1000 ∧ ∀ H', Same H H' → Q (.bl true) H'
theorem ok_are_tracks (T : Tx w K mg) : FnOk P w K mg base CX0 4 T.d_are_tracks.f T.d_are_tracks.fd ["thing"] (sp_are_tracks K) := by
  refine T.d_are_tracks.F.ok sc_are_tracks (fun vs H Q E h => ?_) (fun cdv A outer s H vs Q E hr h => ?_)
  · obtain ⟨a, xs, ts, rfl, _⟩ := h
    rfl
  · obtain ⟨a, xs, ts, rfl, ha, hts, ok, ne, hn, k⟩ := h
    refine ⟨_, (pss_one (ps_ret (pe_and (pe_callB is_list (by rfl) T.b_isinstance (by decide +kernel) (pa_cons (pv 0) (pa_cons (pe_bltn (v := .ty "list") (by rfl) T.b_list (by decide +kernel) rfl) pa_nil))) (pe_and (pe_cmpR (op_neDK (K := K) hr.units rfl) (pv 0) (pe_lstA pa_nil) (nomark _)) (pe_one (pe_callB (cr_allK (K := K) rfl rfl) (by rfl) T.b_all (by decide +kernel) (pa_cons (pe_lc (own := [("track", 1)]) (g := gName 1) (by rfl) sc_are_tracks.nd (pi_listK (K := K) rfl (pv 0)) (blkOk_by (own := [("track", 1)]) (N := N_are_tracks) (sc := defScope s_are_tracks) (by decide +kernel)) (fun _ _ _ _ _ => (pg_name (i := 1) sc_are_tracks.nd rfl (Or.inl rfl))) (fun _ _ _ _ _ => pts_nil) (fun _ _ _ _ _ => (pe_call (ok_is_track T) (hr.mono (by decide)) (by rfl) T.d_is_track.g T.d_is_track.F.kp T.d_is_track.b .nil pass0 (pa_cons (pv 1) pa_nil)))) pa_nil))))))), ?_⟩
    tm_at "rzs"
    intro p H1 f1 s1 g1
    have ha1 := s1 _ _ ha
    refine ⟨_, _, .lst (sqL ha1) (dp_tks (hts.mono s1)), .lst (xs := []) (sqL g1) .nil, tks_shaped _, by decide +kernel, ?_⟩
    have e0 : PyData.eqv (.list (ts.map tkD)) (.list []) = false := by
      cases ts with
      | nil => exact absurd rfl ne
      | cons t ts => simp [PyData.eqv, PyData.eqvAll]
    rw [e0]
    tm_at "rzs"
    refine ⟨⟨_, sqL ha1⟩, fun D hD => lcLx (K := K) (xs := xs) (fun _ => .bl true) hD (sqL ha1) (by rw [hts.1]; omega) (fun i x H2 Kt Kf hx s2 kk => ?_) (fun H2 s2 g2 => ?_)⟩
    · obtain ⟨t, ht, hat⟩ := hts.at' hx
      have hat2 := hat.mono (s1.trans s2)
      have okt := ok t (List.mem_of_getElem? ht)
      tm_at "rzs"
      exact kk _ (Same.refl _)
    rw [bls _ fun _ => true] at g2
    tm_at "rzs"
    refine ⟨D, _, rfl, sqL g2, ?_⟩
    rw [all_true]
    exact k _ (s1.trans s2)
end
end My
namespace My
open PySem PySem.Spec PyProof.Rows L2
section
variable {P : Program} {w : World} {K : PySem.W.Frag} {mg : Str → Option Value} {base : Heap}
def sp_is_stretch : Sp := fun vs H Q _ => ∃ (f m : V) (n : Int) (t1 t2 : String), vs = [f, m, .int n] ∧ Ty7 H f t1 ∧ Ty7 H m t2 ∧ Q (.bl (strchB f m n)) H
theorem ok_is_stretch (T : Tx w K mg) : FnOk P w K mg base CX0 3 T.d_is_stretch.f T.d_is_stretch.fd ["first", "many", "count"] (sp_is_stretch) := by
  refine T.d_is_stretch.F.ok sc_is_stretch (fun vs H Q E h => ?_) (fun cdv A outer s H vs Q E hr h => ?_)
  · obtain ⟨f, m, n, t1, t2, rfl, _⟩ := h
    rfl
  · obtain ⟨f, m, n, t1, t2, rfl, h1, h2, k⟩ := h
    refine ⟨_, (pss_one (ps_ret (pe_and (pe_call (ok_is_count T) (hr.mono (by decide)) (by rfl) T.d_is_count.g T.d_is_count.F.kp T.d_is_count.b .nil pass0 (pa_cons (pv 0) pa_nil)) (pe_and (pe_call (ok_is_whole T) (hr.mono (by decide)) (by rfl) T.d_is_whole.g T.d_is_whole.F.kp T.d_is_whole.b .nil pass0 (pa_cons (pv 1) pa_nil)) (pe_and (pe_cmpR op_ge (pv 1) pe_int (nomark _)) (pe_one (pe_cmpR op_le (pe_op op_add (pv 0) (pv 1)) (pv 2) (nomark _)))))))), ?_⟩
    tm_at "rzs"
    have kk : ∀ b : Bool, b = strchB f m n → Q (.bl b) H := fun b e => by rw [e]; exact k
    by_cases e1 : isN f = true
    · obtain ⟨a, rfl, a0⟩ : ∃ a : Int, f = .int a ∧ 0 ≤ a := by cases f <;> simp_all [isN]
      refine iteT' e1 ?_
      tm_at "rzs"
      by_cases e2 : isI m = true
      · obtain ⟨b, rfl⟩ := isI_of e2
        refine iteT' e2 ?_
        tm_at "rzs"
        by_cases e3 : 1 ≤ b
        · refine iteT' (decide_eq_true e3) ?_
          tm_at "rzs"
          refine kk _ ?_
          show _ = (decide (0 ≤ a) && (decide (1 ≤ b) && decide (a + b ≤ n)))
          rw [decide_eq_true a0, decide_eq_true e3]
          simp
        · refine iteF' (decide_eq_false e3) ?_
          refine kk _ ?_
          show _ = (decide (0 ≤ a) && (decide (1 ≤ b) && decide (a + b ≤ n)))
          rw [decide_eq_false e3]
          simp
      · have e2 : isI m = false := by simpa using e2
        refine iteF' e2 ?_
        refine kk _ ?_
        cases m <;> simp_all [isI, strchB]
    · have e1 : isN f = false := by simpa using e1
      refine iteF' e1 ?_
      refine kk _ ?_
      cases f with
      | int a =>
        have a0 : ¬ 0 ≤ a := fun h => by rw [show isN (.int a) = decide (0 ≤ a) from rfl, decide_eq_true h] at e1; cases e1
        cases m <;> simp [strchB, a0]
      | _ => rfl
end
end My
namespace My
open PySem PySem.Spec PyProof.Rows L2
section
variable {P : Program} {w : World} {K : PySem.W.Frag} {mg : Str → Option Value} {base : Heap}
def sp_is_spot : Sp := fun vs H Q _ => ∃ (v : V) (o : Option (List V)) (c r : Int), vs = [v, .int c, .int r] ∧ ThAt H v o ∧ Q (.bl (spotB c r o)) H
theorem ok_is_spot (T : Tx w K mg) : FnOk P w K mg base CX0 4 T.d_is_spot.f T.d_is_spot.fd ["thing", "columns", "rows"] (sp_is_spot) := by
  refine T.d_is_spot.F.ok sc_is_spot (fun vs H Q E h => ?_) (fun cdv A outer s H vs Q E hr h => ?_)
  · obtain ⟨v, o, c, r, rfl, _⟩ := h
    rfl
  · obtain ⟨v, o, c, r, rfl, hv, k⟩ := h
    refine ⟨_, (pss_cons (ps_if (PW.pt (pw_or (pt_not (pt_val (pe_callB is_tuple (by rfl) T.b_isinstance (by decide +kernel) (pa_cons (pv 0) (pa_cons (pe_bltn (v := .ty "tuple") (by rfl) T.b_tuple (by decide +kernel) rfl) pa_nil))))) (pw_or1 (pt_cmpR op_ne (pe_callB (call_lenK (K := K) rfl) (by rfl) T.b_len (by decide +kernel) (pa_cons (pv 0) pa_nil)) pe_int (nomark _)))))
      (pss_one (ps_ret pe_bl))
      pss_nil)
      (pss_one (ps_ret (pe_and (pe_call (ok_is_stretch T) (hr.mono (by decide)) (by rfl) T.d_is_stretch.g T.d_is_stretch.F.kp T.d_is_stretch.b .nil pass0 (pa_cons (pe_ix (ix_tupK (K := K) rfl) (pv 0) pe_int (fun _ _ => rfl)) (pa_cons (pe_ix (ix_tupK (K := K) rfl) (pv 0) pe_int (fun _ _ => rfl)) (pa_cons (pv 1) pa_nil)))) (pe_one (pe_call (ok_is_stretch T) (hr.mono (by decide)) (by rfl) T.d_is_stretch.g T.d_is_stretch.F.kp T.d_is_stretch.b .nil pass0 (pa_cons (pe_ix (ix_tupK (K := K) rfl) (pv 0) pe_int (fun _ _ => rfl)) (pa_cons (pe_ix (ix_tupK (K := K) rfl) (pv 0) pe_int (fun _ _ => rfl)) (pa_cons (pv 2) pa_nil))))))))), ?_⟩
    tm_at "rzs"
    cases hv with
    | other v t h n =>
      refine ⟨v, t, rfl, h, ?_⟩
      have e : decide (t = "tuple") = false := decide_eq_false n
      refine ⟨_, rfl, ?_⟩
      show if (!decide (t = "tuple")) = true then _ else _
      rw [e]
      tm_at "rzs"
      exact k
    | tup a xs h hx =>
      refine ⟨_, _, rfl, .tup h, ?_⟩
      tm_at "rzs"
      by_cases e4 : xs.length = 4
      · obtain ⟨x, y, w, d, rfl⟩ := four e4
        obtain ⟨tx, hx0⟩ := hx x (by simp)
        obtain ⟨ty, hy0⟩ := hx y (by simp)
        obtain ⟨tw, hw0⟩ := hx w (by simp)
        obtain ⟨td, hd0⟩ := hx d (by simp)
        tm_at "rzs"
        refine ⟨x, w, c, tx, tw, rfl, hx0, hw0, ?_⟩
        tm_at "rzs"
        have kk : ∀ b : Bool, b = (strchB x w c && strchB y d r) → Q (.bl b) H := fun b e => by rw [e]; exact k
        cases e : strchB x w c with
        | true =>
          rw [e] at kk
          tm_at "rzs"
          refine ⟨y, d, r, ty, td, rfl, hy0, hd0, ?_⟩
          tm_at "rzs"
          exact kk _ (by simp)
        | false =>
          rw [e] at kk
          refine iteF' rfl ?_
          tm_at "rzs"
          exact kk _ (by simp)
      · refine iteT' (by rw [int_inj_dec, decide_eq_false (by omega)]; rfl) ?_
        tm_at "rzs"
        have e : spotB c r (some xs) = false := by
          unfold spotB
          split
          · rename_i e; cases e; exact absurd rfl e4
          · rfl
        rw [e] at k
        exact k
end
end My
namespace My
open PySem PySem.Spec PyProof.Rows L2
section
variable {P : Program} {w : World} {K : PySem.W.Frag} {mg : Str → Option Value} {base : Heap}
def sp_apart : Sp := fun vs H Q _ => ∃ (a b : Addr) (x y w d x' y' w' d' : Int), vs = [.ref a, .ref b] ∧ H a = some (.tup [.int x, .int y, .int w, .int d]) ∧ H b = some (.tup [.int x', .int y', .int w', .int d']) ∧ Q (.bl (apartI x y w d x' y' w' d')) H
theorem ok_apart (T : Tx w K mg) : FnOk P w K mg base CX0 1 T.d_apart.f T.d_apart.fd ["one", "other"] (sp_apart) := by
  refine T.d_apart.F.ok sc_apart (fun vs H Q E h => ?_) (fun cdv A outer s H vs Q E hr h => ?_)
  · obtain ⟨a, b, x, y, w, d, x', y', w', d', rfl, _⟩ := h
    rfl
  · obtain ⟨a, b, x, y, w, d, x', y', w', d', rfl, ha, hb, k⟩ := h
    refine ⟨_, (pss_cons (ps_set (i := 2) sc_apart.nd rfl (Or.inl rfl) (pe_or (pe_cmpR op_le (pe_op op_add (pe_ix (ix_tupK (K := K) rfl) (pv 0) pe_int (fun _ _ => rfl)) (pe_ix (ix_tupK (K := K) rfl) (pv 0) pe_int (fun _ _ => rfl))) (pe_ix (ix_tupK (K := K) rfl) (pv 1) pe_int (fun _ _ => rfl)) (nomark _)) (pe_one (pe_cmpR op_le (pe_op op_add (pe_ix (ix_tupK (K := K) rfl) (pv 1) pe_int (fun _ _ => rfl)) (pe_ix (ix_tupK (K := K) rfl) (pv 1) pe_int (fun _ _ => rfl))) (pe_ix (ix_tupK (K := K) rfl) (pv 0) pe_int (fun _ _ => rfl)) (nomark _)))))
      (pss_one (ps_ret (pe_or (pv 2) (pe_or (pe_cmpR op_le (pe_op op_add (pe_ix (ix_tupK (K := K) rfl) (pv 0) pe_int (fun _ _ => rfl)) (pe_ix (ix_tupK (K := K) rfl) (pv 0) pe_int (fun _ _ => rfl))) (pe_ix (ix_tupK (K := K) rfl) (pv 1) pe_int (fun _ _ => rfl)) (nomark _)) (pe_one (pe_cmpR op_le (pe_op op_add (pe_ix (ix_tupK (K := K) rfl) (pv 1) pe_int (fun _ _ => rfl)) (pe_ix (ix_tupK (K := K) rfl) (pv 1) pe_int (fun _ _ => rfl))) (pe_ix (ix_tupK (K := K) rfl) (pv 0) pe_int (fun _ _ => rfl)) (nomark _)))))))), ?_⟩
    tm_at "rzs"
    have kk : ∀ b : Bool, b = apartI x y w d x' y' w' d' → Q (.bl b) H := fun b e => by rw [e]; exact k
    by_cases e1 : x + w ≤ x'
    · refine iteT' (decide_eq_true e1) ?_
      tm_at "rzs"
      exact kk _ (by unfold apartI; rw [decide_eq_true e1]; rfl)
    refine iteF' (decide_eq_false e1) ?_
    tm_at "rzs"
    by_cases e2 : x' + w' ≤ x
    · refine iteT' (decide_eq_true e2) ?_
      exact kk _ (by unfold apartI; rw [decide_eq_true e2]; simp)
    refine iteF' (decide_eq_false e2) ?_
    tm_at "rzs"
    by_cases e3 : y + d ≤ y'
    · refine iteT' (decide_eq_true e3) ?_
      exact kk _ (by unfold apartI; rw [decide_eq_true e3]; simp)
    refine iteF' (decide_eq_false e3) ?_
    tm_at "rzs"
    refine kk _ ?_
    unfold apartI
    rw [decide_eq_false e1, decide_eq_false e2, decide_eq_false e3]
    simp
end
end My
namespace My
open PySem PySem.Spec PyProof.Rows L2
section
variable {P : Program} {w : World} {K : PySem.W.Frag} {mg : Str → Option Value} {base : Heap}
def sp_may_stand : Sp := fun vs H Q _ => ∃ (v : V) (b : Addr) (o : Option (List V)) (ws : List V) (pre : List (Option (List V))) (c r : Int), vs = [v, .ref b, .int c, .int r] ∧ ThAt H v o ∧ H b = some (.lst ws) ∧ ThsAt H ws pre ∧ (∀ p ∈ pre, spotB c r p = true) ∧ pre.length ≤ 1000 ∧ ∀ H', Same H H' → Q (.bl (spotB c r o && pre.all (apartO o))) H'
theorem ok_may_stand (T : Tx w K mg) : FnOk P w K mg base CX0 5 T.d_may_stand.f T.d_may_stand.fd ["spot", "spots", "columns", "rows"] (sp_may_stand) := by
  refine T.d_may_stand.F.ok sc_may_stand (fun vs H Q E h => ?_) (fun cdv A outer s H vs Q E hr h => ?_)
  · obtain ⟨v, b, o, ws, pre, c, r, rfl, _⟩ := h
    rfl
  · obtain ⟨v, b, o, ws, pre, c, r, rfl, hv, hb, hp, hok, hl, k⟩ := h
    refine ⟨_, (pss_one (ps_ret (pe_and (pe_call (ok_is_spot T) (hr.mono (by decide)) (by rfl) T.d_is_spot.g T.d_is_spot.F.kp T.d_is_spot.b .nil pass0 (pa_cons (pv 0) (pa_cons (pv 2) (pa_cons (pv 3) pa_nil)))) (pe_one (pe_callB (cr_allK (K := K) rfl rfl) (by rfl) T.b_all (by decide +kernel) (pa_cons (pe_lc (own := [("one", 4)]) (g := gName 4) (by rfl) sc_may_stand.nd (pi_listK (K := K) rfl (pv 1)) (blkOk_by (own := [("one", 4)]) (N := N_may_stand) (sc := defScope s_may_stand) (by decide +kernel)) (fun _ _ _ _ _ => (pg_name (i := 4) sc_may_stand.nd rfl (Or.inl rfl))) (fun _ _ _ _ _ => pts_nil) (fun _ _ _ _ _ => (pe_call (ok_apart T) (hr.mono (by decide)) (by rfl) T.d_apart.g T.d_apart.F.kp T.d_apart.b .nil pass0 (pa_cons (pv 0) (pa_cons (pv 4) pa_nil))))) pa_nil)))))), ?_⟩
    tm_at "rzs"
    refine ⟨v, o, c, r, rfl, hv, ?_⟩
    tm_at "rzs"
    have kk : ∀ (b : Bool) H', Same H H' → b = (spotB c r o && pre.all (apartO o)) → Q (.bl b) H' := fun b H' s e => by rw [e]; exact k H' s
    by_cases e1 : spotB c r o = true
    rotate_left
    · have e1 : spotB c r o = false := by simpa using e1
      refine iteF' e1 ?_
      exact kk _ _ (Same.refl _) (by rw [e1]; rfl)
    refine iteT' e1 ?_
    obtain ⟨x, y, w, d, ho, -⟩ := spot_int e1
    subst ho
    obtain ⟨a, rfl, ha⟩ := hv.four
    tm_at "rzs"
    refine ⟨⟨_, sqL hb⟩, fun D hD => lcLx (K := K) (xs := ws) (fun i => .bl (apartO (four4 x y w d) (pre.getD i none))) hD (sqL hb) (by rw [hp.1]; omega) (fun i z H2 Kt Kf hx s2 kq => ?_) (fun H2 s2 g2 => ?_)⟩
    · obtain ⟨q, hq⟩ : ∃ q, pre[i]? = some q := ⟨_, List.getElem?_eq_getElem (by have := (List.getElem?_eq_some_iff.mp hx).1; have := hp.1; omega)⟩
      have hz := hp.2 i z q hx hq
      obtain ⟨x', y', w', d', e, -⟩ := spot_int (hok q (List.mem_of_getElem? hq))
      subst e
      obtain ⟨a', rfl, ha'⟩ := hz.four
      have kq' := kq H2 (Same.refl _)
      have eq : pre.getD i none = four4 x' y' w' d' := by rw [List.getD_eq_getElem?_getD, hq]; rfl
      rw [eq] at kq'
      tm_at "rzs"
      refine ⟨a, a', x, y, w, d, x', y', w', d', rfl, s2 _ _ ha, s2 _ _ ha', ?_⟩
      tm_at "rzs"
      exact kq'
    rw [bls _ fun i => apartO (four4 x y w d) (pre.getD i none)] at g2
    tm_at "rzs"
    refine ⟨D, _, rfl, sqL g2, ?_⟩
    refine kk _ _ s2 ?_
    rw [e1, hp.1, all_getD pre]
    rfl
end
end My
namespace My
open PySem PySem.Spec PyProof.Rows L2
section
variable {P : Program} {w : World} {K : PySem.W.Frag} {mg : Str → Option Value} {base : Heap}
def sp_are_spots : Sp := fun vs H Q _ => ∃ (a : Addr) (ws : List V) (os : List (Option (List V))) (m : Nat) (c r : Int), vs = [.ref a, .int (m : Int), .int c, .int r] ∧ H a = some (.lst ws) ∧ ThsAt H ws os ∧ os.length ≤ 1000 ∧ ∀ H', Same H H' → Q (.bl (decide (os.length = m) && stB c r [] os)) H'
theorem ok_are_spots (T : Tx w K mg) : FnOk P w K mg base CX0 6 T.d_are_spots.f T.d_are_spots.fd ["thing", "many", "columns", "rows"] (sp_are_spots) := by
  refine T.d_are_spots.F.ok sc_are_spots (fun vs H Q E h => ?_) (fun cdv A outer s H vs Q E hr h => ?_)
  · obtain ⟨a, ws, os, m, c, r, rfl, _⟩ := h
    rfl
  · obtain ⟨a, ws, os, m, c, r, rfl, ha, ho, hl, k⟩ := h
    refine ⟨_, (pss_cons (ps_if (PW.pt (pw_or (pt_not (pt_val (pe_callB is_list (by rfl) T.b_isinstance (by decide +kernel) (pa_cons (pv 0) (pa_cons (pe_bltn (v := .ty "list") (by rfl) T.b_list (by decide +kernel) rfl) pa_nil))))) (pw_or1 (pt_cmpR op_ne (pe_callB (call_lenK (K := K) rfl) (by rfl) T.b_len (by decide +kernel) (pa_cons (pv 0) pa_nil)) (pv 1) (nomark _)))))
      (pss_one (ps_ret pe_bl))
      pss_nil)
      (pss_cons (ps_for PassesOwn.never (by rfl) (pi_enumK (K := K) rfl (by rfl) T.b_enumerate (pa_cons (pv 0) pa_nil)) (pg_tup (by rfl) (pgs_cons (pg_name (i := 4) sc_are_spots.nd rfl (Or.inl rfl)) (pgs_cons (pg_name (i := 5) sc_are_spots.nd rfl (Or.inl rfl)) pgs_nil)))
      (pss_one (ps_if (pt_not (pt_val (pe_call (ok_may_stand T) (hr.mono (by decide)) (by rfl) T.d_may_stand.g T.d_may_stand.F.kp T.d_may_stand.b .nil pass0 (pa_cons (pv 5) (pa_cons (pe_slice (sl_listK (K := K) rfl) (pv 0) po_none (po_some (pv 4))) (pa_cons (pv 2) (pa_cons (pv 3) pa_nil)))))))
      (pss_one (ps_ret pe_bl))
      pss_nil)))
      (pss_one (ps_ret pe_bl)))), ?_⟩
    tm_at "rzs"
    have kk : ∀ (b : Bool) H', Same H H' → b = (decide (os.length = m) && stB c r [] os) → Q (.bl b) H' := fun b H' s e => by rw [e]; exact k H' s
    by_cases e0 : os.length = m
    rotate_left
    · refine iteT' (by rw [int_inj_dec, decide_eq_false (by rw [ho.1]; omega)]; rfl) ?_
      tm_at "rzs"
      exact kk _ _ (Same.refl _) (by rw [decide_eq_false e0]; rfl)
    refine iteF' (by rw [int_inj_dec, decide_eq_true (by rw [ho.1]; omega)]; rfl) ?_
    tm_at "rzs"
    have nd : ∀ p o, os[p]? = some o → (∀ q ∈ os.take p, spotB c r q = true) → (spotB c r o && (os.take p).all (apartO o)) = false → stB c r [] os = false := fun p o hp _ hf => by
      cases e : stB c r [] os with
      | false => rfl
      | true => have := (stB_step os []).mp e p o hp; rw [List.nil_append, hf] at this; cases this
    refine ⟨a, _, rfl, sqL ha, for_enum (K := K) (xs := ws) (fun p σ H' => ∃ v4 v5 : Option V, σ = [some (.ref a), some (.int (m : Int)), some (.int c), some (.int r), v4, v5] ∧ Same H H' ∧ ∀ i o, i < p → os[i]? = some o → (spotB c r o && (os.take i).all (apartO o)) = true)
      ⟨none, none, rfl, Same.refl _, fun i o h => absurd h (Nat.not_lt_zero i)⟩ (fun p σ H' ⟨_, _, _, b, _⟩ => sqL (b _ _ ha)) ?_ ?_⟩
    · rintro p x T1 σ H3 H4 hx ⟨v4, v5, rfl, b3, g3⟩ nT sT gT
      obtain ⟨o, hq⟩ : ∃ q, os[p]? = some q := ⟨_, List.getElem?_eq_getElem (by have := (List.getElem?_eq_some_iff.mp hx).1; have := ho.1; omega)⟩
      have hp := (List.getElem?_eq_some_iff.mp hq).1
      have hz := (ho.2 p x o hx hq).same (b3.trans sT)
      have ha4 := sT _ _ (b3 _ _ ha)
      have hall : ∀ q ∈ os.take p, spotB c r q = true := fun q mq => by
        obtain ⟨i, hi, rfl⟩ := List.mem_iff_getElem.mp mq
        rw [List.length_take] at hi
        have hg := g3 i os[i] (by omega) (List.getElem?_eq_getElem (by omega))
        rw [Bool.and_eq_true] at hg
        rw [List.getElem_take]
        exact hg.1
      refine ⟨_, _, rfl, sqT gT, rfl, ?_⟩
      tm_at "rzs"
      refine ⟨a, _, rfl, sqL ha4, fun p2 H5 f5 s5 g5 => ?_⟩
      tm_at "rzs"
      rw [cutV_take] at g5
      have hz5 := hz.same s5
      tm_at "rzs"
      refine ⟨x, p2, o, ws.take p, os.take p, c, r, rfl, hz5, g5, (ho.take p).same (b3.trans (sT.trans s5)), hall, by rw [List.length_take]; omega, fun H6 s6 => ?_⟩
      tm_at "rzs"
      have s06 := b3.trans (sT.trans (s5.trans s6))
      cases e : (spotB c r o && (os.take p).all (apartO o)) with
      | true =>
        refine iteF' rfl ?_
        refine ⟨_, _, rfl, s06, fun i q hi hq2 => ?_⟩
        rcases Nat.lt_or_ge i p with h | h
        · exact g3 i q h hq2
        · obtain rfl : i = p := by omega
          obtain rfl : q = o := Option.some.inj (hq2.symm.trans hq)
          exact e
      | false =>
        refine iteT' rfl ?_
        tm_at "rzs"
        exact kk _ _ s06 (by rw [nd p o hq hall e]; simp)
    · rintro σ H3 ⟨v4, v5, rfl, b3, g3⟩
      tm_at "rzs"
      refine kk _ _ b3 ?_
      rw [decide_eq_true e0, (stB_step os []).mpr fun p o hp => by rw [List.nil_append]; exact g3 p o (by rw [ho.1]; exact (List.getElem?_eq_some_iff.mp hp).1) hp]
      rfl
end
end My
namespace My
open PySem PySem.Spec PyProof.Rows L2
section
variable {P : Program} {w : World} {K : PySem.W.Frag} {mg : Str → Option Value} {base : Heap}
def sp_is_part : Sp := fun vs H Q _ => ∃ (v : V), vs = [v] ∧ ((∃ t, Ty7 H v t ∧ t ≠ "tuple" ∧ Q (.bl false) H) ∨ ∃ (a : Addr) (xs : List V), v = .ref a ∧ H a = some (.tup xs) ∧ Q (.bl (decide (xs.length = 2))) H)
theorem ok_is_part (T : Tx w K mg) : FnOk P w K mg base CX0 1 T.d_is_part.f T.d_is_part.fd ["size"] (sp_is_part) := by
  refine T.d_is_part.F.ok sc_is_part (fun vs H Q E h => ?_) (fun cdv A outer s H vs Q E hr h => ?_)
  · obtain ⟨v, rfl, _⟩ := h
    rfl
  · obtain ⟨v, rfl, k⟩ := h
    refine ⟨_, (pss_one (ps_ret (pe_and (pe_callB is_tuple (by rfl) T.b_isinstance (by decide +kernel) (pa_cons (pv 0) (pa_cons (pe_bltn (v := .ty "tuple") (by rfl) T.b_tuple (by decide +kernel) rfl) pa_nil))) (pe_one (pe_cmpR op_eq (pe_callB (call_lenK (K := K) rfl) (by rfl) T.b_len (by decide +kernel) (pa_cons (pv 0) pa_nil)) pe_int (nomark _)))))), ?_⟩
    tm_at "rzs"
    rcases k with ⟨t, ht, hn, k⟩ | ⟨a, xs, rfl, ha, k⟩
    · refine ⟨v, t, rfl, ht, ?_⟩
      have e : decide (t = "tuple") = false := decide_eq_false hn
      refine ⟨_, rfl, ?_⟩
      show if decide (t = "tuple") = true then _ else _
      rw [e]
      tm_at "rzs"
      exact k
    · refine ⟨_, _, rfl, .tup ha, ?_⟩
      tm_at "rzs"
      rw [show decide (V.int (xs.length : Int) = V.int 2) = decide (xs.length = 2) from by rw [int_inj_dec]; exact decide_eq_decide.mpr (by omega)]
      exact k
theorem isPartP {H : Hp} {v : V} {p : Bool} {Q : VK} {E : XK} (h : PtAt 2 H v p) (q : Q (.bl p) H) : sp_is_part [v] H Q E := ⟨v, rfl, h.is q⟩
end
end My
namespace My
open PySem PySem.Spec PyProof.Rows L2
section
variable {P : Program} {w : World} {K : PySem.W.Frag} {mg : Str → Option Value} {base : Heap}
def sp_is_tie : Sp := fun vs H Q _ => ∃ (v : V), vs = [v] ∧ ((∃ t, Ty7 H v t ∧ t ≠ "tuple" ∧ Q (.bl false) H) ∨ ∃ (a : Addr) (xs : List V), v = .ref a ∧ H a = some (.tup xs) ∧ Q (.bl (decide (xs.length = 4))) H)
theorem ok_is_tie (T : Tx w K mg) : FnOk P w K mg base CX0 1 T.d_is_tie.f T.d_is_tie.fd ["size"] (sp_is_tie) := by
  refine T.d_is_tie.F.ok sc_is_tie (fun vs H Q E h => ?_) (fun cdv A outer s H vs Q E hr h => ?_)
  · obtain ⟨v, rfl, _⟩ := h
    rfl
  · obtain ⟨v, rfl, k⟩ := h
    refine ⟨_, (pss_one (ps_ret (pe_and (pe_callB is_tuple (by rfl) T.b_isinstance (by decide +kernel) (pa_cons (pv 0) (pa_cons (pe_bltn (v := .ty "tuple") (by rfl) T.b_tuple (by decide +kernel) rfl) pa_nil))) (pe_one (pe_cmpR op_eq (pe_callB (call_lenK (K := K) rfl) (by rfl) T.b_len (by decide +kernel) (pa_cons (pv 0) pa_nil)) pe_int (nomark _)))))), ?_⟩
    tm_at "rzs"
    rcases k with ⟨t, ht, hn, k⟩ | ⟨a, xs, rfl, ha, k⟩
    · refine ⟨v, t, rfl, ht, ?_⟩
      have e : decide (t = "tuple") = false := decide_eq_false hn
      refine ⟨_, rfl, ?_⟩
      show if decide (t = "tuple") = true then _ else _
      rw [e]
      tm_at "rzs"
      exact k
    · refine ⟨_, _, rfl, .tup ha, ?_⟩
      tm_at "rzs"
      rw [show decide (V.int (xs.length : Int) = V.int 4) = decide (xs.length = 4) from by rw [int_inj_dec]; exact decide_eq_decide.mpr (by omega)]
      exact k
theorem isTieP {H : Hp} {v : V} {p : Bool} {Q : VK} {E : XK} (h : PtAt 4 H v p) (q : Q (.bl p) H) : sp_is_tie [v] H Q E := ⟨v, rfl, h.is q⟩
end
end My
namespace My
open PySem PySem.Spec PyProof.Rows L2
section
variable {P : Program} {w : World} {K : PySem.W.Frag} {mg : Str → Option Value} {base : Heap}
def sp_is_size : Sp := fun vs H Q _ => ∃ (v : V), vs = [v] ∧ SzAt H v ∧ ∀ H', Same H H' → Q (.bl true) H'
theorem ok_is_size (T : Tx w K mg) : FnOk P w K mg base CX0 3 T.d_is_size.f T.d_is_size.fd ["thing"] (sp_is_size) := by
  refine T.d_is_size.F.ok sc_is_size (fun vs H Q E h => ?_) (fun cdv A outer s H vs Q E hr h => ?_)
  · obtain ⟨v, rfl, _⟩ := h
    rfl
  · obtain ⟨v, rfl, hv, k⟩ := h
    refine ⟨_, (pss_cons (ps_if (PW.pt (pw_or (pt_cmpR op_isN (pv 0) pe_non (nomark _)) (pw_or1 (pt_val (pe_call (ok_is_count T) (hr.mono (by decide)) (by rfl) T.d_is_count.g T.d_is_count.F.kp T.d_is_count.b .nil pass0 (pa_cons (pv 0) pa_nil))))))
      (pss_one (ps_ret pe_bl))
      pss_nil)
      (pss_cons (ps_if (pt_val (pe_call (ok_is_part T) (hr.mono (by decide)) (by rfl) T.d_is_part.g T.d_is_part.F.kp T.d_is_part.b .nil pass0 (pa_cons (pv 0) pa_nil)))
      (pss_one (ps_ret (pe_and (pe_cmpR op_eq (pe_ix (ix_tupK (K := K) rfl) (pv 0) pe_int (fun _ _ => rfl)) pe_str (nomark _)) (pe_one (pe_call (ok_is_count T) (hr.mono (by decide)) (by rfl) T.d_is_count.g T.d_is_count.F.kp T.d_is_count.b .nil pass0 (pa_cons (pe_ix (ix_tupK (K := K) rfl) (pv 0) pe_int (fun _ _ => rfl)) pa_nil))))))
      pss_nil)
      (pss_cons (ps_if (PW.pt (pw_or (pt_not (pt_val (pe_call (ok_is_tie T) (hr.mono (by decide)) (by rfl) T.d_is_tie.g T.d_is_tie.F.kp T.d_is_tie.b .nil pass0 (pa_cons (pv 0) pa_nil)))) (pw_or (pt_cmpR op_ne (pe_ix (ix_tupK (K := K) rfl) (pv 0) pe_int (fun _ _ => rfl)) pe_str (nomark _)) (pw_or1 (pt_not (pt_val (pe_call (ok_is_name T) (hr.mono (by decide)) (by rfl) T.d_is_name.g T.d_is_name.F.kp T.d_is_name.b .nil pass0 (pa_cons (pe_ix (ix_tupK (K := K) rfl) (pv 0) pe_int (fun _ _ => rfl)) pa_nil))))))))
      (pss_one (ps_ret pe_bl))
      pss_nil)
      (pss_one (ps_ret (pe_and (pe_cmpR (op_inK (K := K) rfl) (pe_ix (ix_tupK (K := K) rfl) (pv 0) pe_int (fun _ _ => rfl)) (pe_glob (v := .ref T.U_SIDES) (by rfl) T.v_SIDES rfl) (by rfl)) (pe_one (pe_call (ok_is_whole T) (hr.mono (by decide)) (by rfl) T.d_is_whole.g T.d_is_whole.F.kp T.d_is_whole.b .nil pass0 (pa_cons (pe_ix (ix_tupK (K := K) rfl) (pv 0) pe_int (fun _ _ => rfl)) pa_nil))))))))), ?_⟩
    cases hv with
    | non =>
      tm_at "rzs"
      exact k _ (Same.refl _)
    | cells n =>
      tm_at "rzs"
      exact k _ (Same.refl _)
    | part a n h =>
      tm_at "rzs"
      refine .inr ⟨a, _, rfl, h, ?_⟩
      tm_at "rzs"
      rw [isN_nat]
      exact k _ (Same.refl _)
    | tie a l sd m hl hs h =>
      tm_at "rzs"
      refine .inr ⟨a, _, rfl, h, ?_⟩
      tm_at "rzs"
      refine .inr ⟨a, _, rfl, h, ?_⟩
      tm_at "rzs"
      intro H1 s1
      have h1 := s1 _ _ h
      tm_at "rzs"
      have hin : inV (sX sd) [.str (Str.ofString "wide"), .str (Str.ofString "tall")] = true := by
        rcases hs with rfl | rfl <;> decide +kernel
      refine ⟨_, _, rfl, .inr (T.t_SIDES _), rfl, rfl, ?_⟩
      rw [if_neg (by decide), hin]
      tm_at "rzs"
      exact k _ s1
end
end My
namespace My
open PySem PySem.Spec PyProof.Rows L2
section
variable {P : Program} {w : World} {K : PySem.W.Frag} {mg : Str → Option Value} {base : Heap}
def sp_is_bound : Sp := fun vs H Q _ => ∃ (v : V), vs = [v] ∧ BdAt v ∧ Q (.bl true) H
theorem ok_is_bound (T : Tx w K mg) : FnOk P w K mg base CX0 3 T.d_is_bound.f T.d_is_bound.fd ["thing"] (sp_is_bound) := by
  refine T.d_is_bound.F.ok sc_is_bound (fun vs H Q E h => ?_) (fun cdv A outer s H vs Q E hr h => ?_)
  · obtain ⟨v, rfl, _⟩ := h
    rfl
  · obtain ⟨v, rfl, hv, k⟩ := h
    refine ⟨_, (pss_one (ps_ret (pe_or (pe_cmpR op_isN (pv 0) pe_non (nomark _)) (pe_one (pe_call (ok_is_count T) (hr.mono (by decide)) (by rfl) T.d_is_count.g T.d_is_count.F.kp T.d_is_count.b .nil pass0 (pa_cons (pv 0) pa_nil)))))), ?_⟩
    tm_at "rzs"
    rcases hv with rfl | ⟨n, rfl⟩
    · refine iteT' rfl ?_
      exact k
    · refine iteF' rfl ?_
      tm_at "rzs"
      rw [isN_nat]
      exact k
end
end My
namespace My
open PySem PySem.Spec PyProof.Rows L2
section
variable {P : Program} {w : World} {K : PySem.W.Frag} {mg : Str → Option Value} {base : Heap}
def sp_is_rims (K : PySem.W.Frag) : Sp := fun vs H Q _ => ∃ (v : V), vs = [v] ∧ RmAt K H v ∧ ∀ H', Same H H' → Q (.bl true) H'
theorem ok_is_rims (T : Tx w K mg) : FnOk P w K mg base CX0 3 T.d_is_rims.f T.d_is_rims.fd ["thing"] (sp_is_rims K) := by
  refine T.d_is_rims.F.ok sc_is_rims (fun vs H Q E h => ?_) (fun cdv A outer s H vs Q E hr h => ?_)
  · obtain ⟨v, rfl, _⟩ := h
    rfl
  · obtain ⟨v, rfl, hv, k⟩ := h
    refine ⟨_, (pss_one (ps_ret (pe_and (pe_callB (call_isTupK (K := K) rfl) (by rfl) T.b_isinstance (by decide +kernel) (pa_cons (pv 0) (pa_cons (pe_bltn (v := .ty "tuple") (by rfl) T.b_tuple (by decide +kernel) rfl) pa_nil))) (pe_and (pe_cmpR op_eq (pe_callB (call_lenK (K := K) rfl) (by rfl) T.b_len (by decide +kernel) (pa_cons (pv 0) pa_nil)) pe_int (nomark _)) (pe_one (pe_callB (cr_allK (K := K) rfl rfl) (by rfl) T.b_all (by decide +kernel) (pa_cons (pe_lc (own := [("rim", 1)]) (g := gName 1) (by rfl) sc_is_rims.nd (pi_tupK (K := K) rfl (pv 0)) (blkOk_by (own := [("rim", 1)]) (N := N_is_rims) (sc := defScope s_is_rims) (by decide +kernel)) (fun _ _ _ _ _ => (pg_name (i := 1) sc_is_rims.nd rfl (Or.inl rfl))) (fun _ _ _ _ _ => pts_nil) (fun _ _ _ _ _ => (pe_call (ok_is_count T) (hr.mono (by decide)) (by rfl) T.d_is_count.g T.d_is_count.F.kp T.d_is_count.b .nil pass0 (pa_cons (pv 1) pa_nil)))) pa_nil))))))), ?_⟩
    obtain ⟨a, n0, n1, n2, n3, rfl, ha⟩ := hv
    tm_at "rzs"
    refine .inr ⟨a, _, rfl, ha, ?_⟩
    tm_at "rzs"
    refine ⟨⟨_, ha⟩, fun D hD => lcTm (K := K) (ys := [n0, n1, n2, n3]) (fun n : Nat => V.int (n : Int)) (fun _ => V.bl true) hD ha (Nat.le_of_ble_eq_true rfl) (fun i y H1 Kt Kf hy s1 kt => ?_) (fun H1 s1 g1 => ?_)⟩
    · tm_at "rzs"
      rw [isN_nat]
      exact kt _ (Same.refl _)
    tm_at "rzs"
    refine ⟨D, [true, true, true, true], rfl, sqL g1, ?_⟩
    exact k H1 s1
end
end My
namespace My
open PySem PySem.Spec PyProof.Rows L2
section
variable {P : Program} {w : World} {K : PySem.W.Frag} {mg : Str → Option Value} {base : Heap}
theorem kb_Style_init_1_ (T : Tx w K mg) : ∃ mv : List Value, KBn K T.d_Style_init.fd ["self", "wide", "high", "least_wide", "least_high", "most_wide", "most_high", "grow", "shrink", "rims", "stand"] 1 [] (fun us ws => pick1 0 us ++ pick1 0 mv ++ pick1 1 mv ++ pick1 2 mv ++ pick1 3 mv ++ pick1 4 mv ++ pick1 5 mv ++ pick1 6 mv ++ pick1 7 mv ++ pick1 8 mv ++ pick1 9 mv) (fun vs zs => pick1 0 vs ++ pick1 0 (([("wide", .non), ("high", .non), ("least_wide", .non), ("least_high", .non), ("most_wide", .non), ("most_high", .non), ("grow", .int 0), ("shrink", .int 1), ("rims", .ref T.U_NO_RIMS), ("stand", .non)] : List (Str × V)).map (·.2)) ++ pick1 1 (([("wide", .non), ("high", .non), ("least_wide", .non), ("least_high", .non), ("most_wide", .non), ("most_high", .non), ("grow", .int 0), ("shrink", .int 1), ("rims", .ref T.U_NO_RIMS), ("stand", .non)] : List (Str × V)).map (·.2)) ++ pick1 2 (([("wide", .non), ("high", .non), ("least_wide", .non), ("least_high", .non), ("most_wide", .non), ("most_high", .non), ("grow", .int 0), ("shrink", .int 1), ("rims", .ref T.U_NO_RIMS), ("stand", .non)] : List (Str × V)).map (·.2)) ++ pick1 3 (([("wide", .non), ("high", .non), ("least_wide", .non), ("least_high", .non), ("most_wide", .non), ("most_high", .non), ("grow", .int 0), ("shrink", .int 1), ("rims", .ref T.U_NO_RIMS), ("stand", .non)] : List (Str × V)).map (·.2)) ++ pick1 4 (([("wide", .non), ("high", .non), ("least_wide", .non), ("least_high", .non), ("most_wide", .non), ("most_high", .non), ("grow", .int 0), ("shrink", .int 1), ("rims", .ref T.U_NO_RIMS), ("stand", .non)] : List (Str × V)).map (·.2)) ++ pick1 5 (([("wide", .non), ("high", .non), ("least_wide", .non), ("least_high", .non), ("most_wide", .non), ("most_high", .non), ("grow", .int 0), ("shrink", .int 1), ("rims", .ref T.U_NO_RIMS), ("stand", .non)] : List (Str × V)).map (·.2)) ++ pick1 6 (([("wide", .non), ("high", .non), ("least_wide", .non), ("least_high", .non), ("most_wide", .non), ("most_high", .non), ("grow", .int 0), ("shrink", .int 1), ("rims", .ref T.U_NO_RIMS), ("stand", .non)] : List (Str × V)).map (·.2)) ++ pick1 7 (([("wide", .non), ("high", .non), ("least_wide", .non), ("least_high", .non), ("most_wide", .non), ("most_high", .non), ("grow", .int 0), ("shrink", .int 1), ("rims", .ref T.U_NO_RIMS), ("stand", .non)] : List (Str × V)).map (·.2)) ++ pick1 8 (([("wide", .non), ("high", .non), ("least_wide", .non), ("least_high", .non), ("most_wide", .non), ("most_high", .non), ("grow", .int 0), ("shrink", .int 1), ("rims", .ref T.U_NO_RIMS), ("stand", .non)] : List (Str × V)).map (·.2)) ++ pick1 9 (([("wide", .non), ("high", .non), ("least_wide", .non), ("least_high", .non), ("most_wide", .non), ("most_high", .non), ("grow", .int 0), ("shrink", .int 1), ("rims", .ref T.U_NO_RIMS), ("stand", .non)] : List (Str × V)).map (·.2))) := by
  exact T.d_Style_init.FD.kbinds0 1 [] [("wide", .non), ("high", .non), ("least_wide", .non), ("least_high", .non), ("most_wide", .non), ("most_high", .non), ("grow", .int 0), ("shrink", .int 1), ("rims", .ref T.U_NO_RIMS), ("stand", .non)] (fun us mv ws => pick1 0 us ++ pick1 0 mv ++ pick1 1 mv ++ pick1 2 mv ++ pick1 3 mv ++ pick1 4 mv ++ pick1 5 mv ++ pick1 6 mv ++ pick1 7 mv ++ pick1 8 mv ++ pick1 9 mv) (by intro z; cases z) (fun q hq => List.Sublist.subset (show List.Sublist _ _ from (.cons₂ _ (.cons₂ _ (.cons₂ _ (.cons₂ _ (.cons₂ _ (.cons₂ _ (.cons₂ _ (.cons₂ _ (.cons₂ _ (.cons₂ _ .slnil))))))))))) hq) (fun r1 rm r2 => (((((((((((vals_pick r1 0).append (vals_pick rm 0)).append (vals_pick rm 1)).append (vals_pick rm 2)).append (vals_pick rm 3)).append (vals_pick rm 4)).append (vals_pick rm 5)).append (vals_pick rm 6)).append (vals_pick rm 7)).append (vals_pick rm 8)).append (vals_pick rm 9)))
    (fun D doc pm an cdv ct us mv ws h1 hm h2 => match us, mv, ws, h1, hm, h2 with | [_], [_, _, _, _, _, _, _, _, _, _], [], _, _, _ => ⟨_, _, _, _, _, _, rfl, rfl, ⟨_, _, _, _, _, _, rfl, rfl, ⟨_, _, _, _, _, _, rfl, rfl, ⟨_, _, _, _, _, _, rfl, rfl, ⟨_, _, _, _, _, _, rfl, rfl, ⟨_, _, _, _, _, _, rfl, rfl, ⟨_, _, _, _, _, _, rfl, rfl, ⟨_, _, _, _, _, _, rfl, rfl, ⟨_, _, _, _, _, _, rfl, rfl, ⟨_, _, _, _, _, _, rfl, rfl, rfl⟩⟩⟩⟩⟩⟩⟩⟩⟩⟩)
theorem kb_Style_init_1_wide_high_least_wide_least_high_most_wide_most_high_grow_shrink_rims_stand (T : Tx w K mg) : ∃ mv : List Value, KBn K T.d_Style_init.fd ["self", "wide", "high", "least_wide", "least_high", "most_wide", "most_high", "grow", "shrink", "rims", "stand"] 1 ["wide", "high", "least_wide", "least_high", "most_wide", "most_high", "grow", "shrink", "rims", "stand"] (fun us ws => pick1 0 us ++ pick1 0 ws ++ pick1 1 ws ++ pick1 2 ws ++ pick1 3 ws ++ pick1 4 ws ++ pick1 5 ws ++ pick1 6 ws ++ pick1 7 ws ++ pick1 8 ws ++ pick1 9 ws) (fun vs zs => pick1 0 vs ++ pick1 0 zs ++ pick1 1 zs ++ pick1 2 zs ++ pick1 3 zs ++ pick1 4 zs ++ pick1 5 zs ++ pick1 6 zs ++ pick1 7 zs ++ pick1 8 zs ++ pick1 9 zs) := by
  exact T.d_Style_init.FD.kbinds0 1 ["wide", "high", "least_wide", "least_high", "most_wide", "most_high", "grow", "shrink", "rims", "stand"] [] (fun us mv ws => pick1 0 us ++ pick1 0 ws ++ pick1 1 ws ++ pick1 2 ws ++ pick1 3 ws ++ pick1 4 ws ++ pick1 5 ws ++ pick1 6 ws ++ pick1 7 ws ++ pick1 8 ws ++ pick1 9 ws) (by intro z; cases z) (fun q hq => List.Sublist.subset (show List.Sublist _ _ from (.cons _ (.cons _ (.cons _ (.cons _ (.cons _ (.cons _ (.cons _ (.cons _ (.cons _ (.cons _ .slnil))))))))))) hq) (fun r1 rm r2 => (((((((((((vals_pick r1 0).append (vals_pick r2 0)).append (vals_pick r2 1)).append (vals_pick r2 2)).append (vals_pick r2 3)).append (vals_pick r2 4)).append (vals_pick r2 5)).append (vals_pick r2 6)).append (vals_pick r2 7)).append (vals_pick r2 8)).append (vals_pick r2 9)))
    (fun D doc pm an cdv ct us mv ws h1 hm h2 => match us, mv, ws, h1, hm, h2 with | [_], [], [_, _, _, _, _, _, _, _, _, _], _, _, _ => (show _ = _ by kernel_rfl))
theorem ok_Style_init (T : Tx w K mg) : FnOk P w K mg base CX0 4 T.d_Style_init.f T.d_Style_init.fd ["self", "wide", "high", "least_wide", "least_high", "most_wide", "most_high", "grow", "shrink", "rims", "stand"] (sp_Style_init K T.c_Style.C) := by
  refine T.d_Style_init.F.ok sc_Style_init (fun vs H Q E h => ?_) (fun cdv A outer s H vs Q E hr h => ?_)
  · obtain ⟨x, dx, w, h, lw, lh, mw, mh, g, s, r, st, rfl, _⟩ := h
    rfl
  · obtain ⟨x, dx, w, h, lw, lh, mw, mh, g, s, r, st, rfl, hx, hv, k⟩ := h
    obtain ⟨gn, rfl⟩ := hv.g
    obtain ⟨sn, rfl⟩ := hv.s
    refine ⟨_, (pss_cons (ps_set (i := 11) sc_Style_init.nd rfl (Or.inl rfl) (pe_and (pe_call (ok_is_size T) (hr.mono (by decide)) (by rfl) T.d_is_size.g T.d_is_size.F.kp T.d_is_size.b .nil pass0 (pa_cons (pv 1) pa_nil)) (pe_one (pe_call (ok_is_size T) (hr.mono (by decide)) (by rfl) T.d_is_size.g T.d_is_size.F.kp T.d_is_size.b .nil pass0 (pa_cons (pv 2) pa_nil)))))
      (pss_cons (ps_set (i := 12) sc_Style_init.nd rfl (Or.inl rfl) (pe_callB (cr_allK (K := K) rfl rfl) (by rfl) T.b_all (by decide +kernel) (pa_cons (pe_lc (own := [("one", 13)]) (g := gName 13) (by rfl) sc_Style_init.nd (pi_tupK (K := K) rfl (pe_tupA (pa_cons (pv 3) (pa_cons (pv 4) (pa_cons (pv 5) (pa_cons (pv 6) pa_nil)))))) (blkOk_by (own := [("one", 13)]) (N := N_Style_init) (sc := defScope s_Style_init) (by decide +kernel)) (fun _ _ _ _ _ => (pg_name (i := 13) sc_Style_init.nd rfl (Or.inl rfl))) (fun _ _ _ _ _ => pts_nil) (fun _ _ _ _ _ => (pe_call (ok_is_bound T) (hr.mono (by decide)) (by rfl) T.d_is_bound.g T.d_is_bound.F.kp T.d_is_bound.b .nil pass0 (pa_cons (pv 13) pa_nil)))) pa_nil)))
      (pss_cons (ps_if (PW.pt (pw_or (pt_not (pt_val (pv 11))) (pw_or1 (pt_not (pt_val (pv 12))))))
      (pss_one ps_never)
      pss_nil)
      (pss_cons (ps_if (PW.pt (pw_or (pt_not (pt_val (pe_call (ok_is_count T) (hr.mono (by decide)) (by rfl) T.d_is_count.g T.d_is_count.F.kp T.d_is_count.b .nil pass0 (pa_cons (pv 7) pa_nil)))) (pw_or (pt_not (pt_val (pe_call (ok_is_count T) (hr.mono (by decide)) (by rfl) T.d_is_count.g T.d_is_count.F.kp T.d_is_count.b .nil pass0 (pa_cons (pv 8) pa_nil)))) (pw_or1 (pt_not (pt_val (pe_call (ok_is_rims T) (hr.mono (by decide)) (by rfl) T.d_is_rims.g T.d_is_rims.F.kp T.d_is_rims.b .nil pass0 (pa_cons (pv 9) pa_nil))))))))
      (pss_one ps_never)
      pss_nil)
      (pss_cons (ps_if (PW.pt (pw_and (pt_cmpR op_notN (pv 10) pe_non (nomark _)) (pw_and1 (pt_cmpR (op_notInK (K := K) rfl) (pv 10) (pe_glob (v := .ref T.U_STANDS) (by rfl) T.v_STANDS rfl) (by rfl)))))
      (pss_one ps_never)
      pss_nil)
      (pss_cons (ps_asg (pe_tupA (pa_cons (pv 1) (pa_cons (pv 2) pa_nil))) (pg_tup (by rfl) (pgs_cons (pg_fldK (K := K) rfl (pv 0)) (pgs_cons (pg_fldK (K := K) rfl (pv 0)) pgs_nil))))
      (pss_cons (ps_asg (pe_tupA (pa_cons (pv 3) (pa_cons (pv 4) pa_nil))) (pg_tup (by rfl) (pgs_cons (pg_fldK (K := K) rfl (pv 0)) (pgs_cons (pg_fldK (K := K) rfl (pv 0)) pgs_nil))))
      (pss_cons (ps_asg (pe_tupA (pa_cons (pv 5) (pa_cons (pv 6) pa_nil))) (pg_tup (by rfl) (pgs_cons (pg_fldK (K := K) rfl (pv 0)) (pgs_cons (pg_fldK (K := K) rfl (pv 0)) pgs_nil))))
      (pss_cons (ps_asg (pe_tupA (pa_cons (pv 7) (pa_cons (pv 8) pa_nil))) (pg_tup (by rfl) (pgs_cons (pg_fldK (K := K) rfl (pv 0)) (pgs_cons (pg_fldK (K := K) rfl (pv 0)) pgs_nil))))
      (pss_one (ps_asg (pe_tupA (pa_cons (pv 9) (pa_cons (pv 10) pa_nil))) (pg_tup (by rfl) (pgs_cons (pg_fldK (K := K) rfl (pv 0)) (pgs_cons (pg_fldK (K := K) rfl (pv 0)) pgs_nil)))))))))))))), ?_⟩
    tm_at "rzs"
    refine ⟨hv.w, fun H1 s1 => ?_⟩
    tm_at "rzs"
    refine ⟨hv.h.same s1, fun H2 s2 => ?_⟩
    dsimp only [gName]
    tm_at "rzs"
    intro p3 H3 f3 s3 g3
    refine ⟨p3, rfl, ⟨_, sqT g3⟩, fun D hD => lcTm (K := K) (ys := [lw, lh, mw, mh]) (fun v : V => v) (fun _ => V.bl true) hD (sqT g3) (Nat.le_of_ble_eq_true rfl) (fun i y H4 Kt Kf hy s4 kt => ?_) (fun H4 s4 g4 => ?_)⟩
    · have hb : BdAt y := by
        have my := List.mem_of_getElem? hy
        rcases List.mem_cons.mp my with rfl | my
        · exact hv.lw
        rcases List.mem_cons.mp my with rfl | my
        · exact hv.lh
        rcases List.mem_cons.mp my with rfl | my
        · exact hv.mw
        · rw [List.mem_singleton.mp my]; exact hv.mh
      tm_at "rzs"
      exact kt _ (Same.refl _)
    tm_at "rzs"
    refine ⟨D, [true, true, true, true], rfl, sqL g4, ?_⟩
    dsimp only [gName]
    tm_at "rzs"
    have s04 := ((s1.trans s2).trans s3).trans s4
    refine ⟨hv.r.same s04, fun H5 s5 => ?_⟩
    tm_at "rzi"
    have s05 := s04.trans s5
    have hx5 := s05 _ _ hx
    rcases hv.st with hst | ⟨t, ht, hst⟩
    · refine iteF' (by rw [hst]; rfl) ?_
      tm_at "rzs"
      intro p6 H6 f6 s6 g6
      refine ⟨p6, _, rfl, sqT g6, rfl, ?_⟩
      refine ⟨_, _, rfl, ?_⟩
      refine ⟨_, rfl, x, _, dx, _, rfl, s6 _ _ hx5, T.c_Style.cls, T.n_Style_wide, Nat.lt_of_succ_le (Nat.le_of_ble_eq_true rfl), ?_⟩
      refine ⟨_, _, rfl, ?_⟩
      refine ⟨_, rfl, x, _, dx, _, rfl, upd_same, T.c_Style.cls, T.n_Style_high, Nat.lt_of_succ_le (Nat.le_of_ble_eq_true rfl), ?_⟩
      refine ⟨rfl, ?_⟩
      tm_at "rzs"
      intro p7 H7 f7 s7 g7
      refine ⟨p7, _, rfl, sqT g7, rfl, ?_⟩
      refine ⟨_, _, rfl, ?_⟩
      refine ⟨_, rfl, x, _, dx, _, rfl, s7 _ _ upd_same, T.c_Style.cls, T.n_Style_least_wide, Nat.lt_of_succ_le (Nat.le_of_ble_eq_true rfl), ?_⟩
      refine ⟨_, _, rfl, ?_⟩
      refine ⟨_, rfl, x, _, dx, _, rfl, upd_same, T.c_Style.cls, T.n_Style_least_high, Nat.lt_of_succ_le (Nat.le_of_ble_eq_true rfl), ?_⟩
      refine ⟨rfl, ?_⟩
      tm_at "rzs"
      intro p8 H8 f8 s8 g8
      refine ⟨p8, _, rfl, sqT g8, rfl, ?_⟩
      refine ⟨_, _, rfl, ?_⟩
      refine ⟨_, rfl, x, _, dx, _, rfl, s8 _ _ upd_same, T.c_Style.cls, T.n_Style_most_wide, Nat.lt_of_succ_le (Nat.le_of_ble_eq_true rfl), ?_⟩
      refine ⟨_, _, rfl, ?_⟩
      refine ⟨_, rfl, x, _, dx, _, rfl, upd_same, T.c_Style.cls, T.n_Style_most_high, Nat.lt_of_succ_le (Nat.le_of_ble_eq_true rfl), ?_⟩
      refine ⟨rfl, ?_⟩
      tm_at "rzs"
      intro p9 H9 f9 s9 g9
      refine ⟨p9, _, rfl, sqT g9, rfl, ?_⟩
      refine ⟨_, _, rfl, ?_⟩
      refine ⟨_, rfl, x, _, dx, _, rfl, s9 _ _ upd_same, T.c_Style.cls, T.n_Style_grow, Nat.lt_of_succ_le (Nat.le_of_ble_eq_true rfl), ?_⟩
      refine ⟨_, _, rfl, ?_⟩
      refine ⟨_, rfl, x, _, dx, _, rfl, upd_same, T.c_Style.cls, T.n_Style_shrink, Nat.lt_of_succ_le (Nat.le_of_ble_eq_true rfl), ?_⟩
      refine ⟨rfl, ?_⟩
      tm_at "rzs"
      intro p10 H10 f10 s10 g10
      refine ⟨p10, _, rfl, sqT g10, rfl, ?_⟩
      refine ⟨_, _, rfl, ?_⟩
      refine ⟨_, rfl, x, _, dx, _, rfl, s10 _ _ upd_same, T.c_Style.cls, T.n_Style_rims, Nat.lt_of_succ_le (Nat.le_of_ble_eq_true rfl), ?_⟩
      refine ⟨_, _, rfl, ?_⟩
      refine ⟨_, rfl, x, _, dx, _, rfl, upd_same, T.c_Style.cls, T.n_Style_stand, Nat.lt_of_succ_le (Nat.le_of_ble_eq_true rfl), ?_⟩
      refine ⟨rfl, ?_⟩
      refine k _ (by tm_at "bt") ?_
      rw [upd_same, styF_put]
    · refine iteT' (by rw [hst]; rfl) ?_
      have hin : inV (sX t) [.str (Str.ofString "start"), .str (Str.ofString "end"), .str (Str.ofString "middle"), .str (Str.ofString "stretch"), .str (Str.ofString "base")] = true := by
        have ht : t ∈ ["start", "end", "middle", "stretch", "base"] := ht
        simp only [List.mem_cons, List.not_mem_nil, or_false] at ht
        rcases ht with rfl | rfl | rfl | rfl | rfl <;> decide +kernel
      tm_at "rds"
      refine ⟨_, _, rfl, .inr (T.t_STANDS _), by rw [hst]; rfl, rfl, ?_⟩
      rw [if_pos rfl, hst, hin, ← hst]
      tm_at "rzs"
      intro p6 H6 f6 s6 g6
      refine ⟨p6, _, rfl, sqT g6, rfl, ?_⟩
      refine ⟨_, _, rfl, ?_⟩
      refine ⟨_, rfl, x, _, dx, _, rfl, s6 _ _ hx5, T.c_Style.cls, T.n_Style_wide, Nat.lt_of_succ_le (Nat.le_of_ble_eq_true rfl), ?_⟩
      refine ⟨_, _, rfl, ?_⟩
      refine ⟨_, rfl, x, _, dx, _, rfl, upd_same, T.c_Style.cls, T.n_Style_high, Nat.lt_of_succ_le (Nat.le_of_ble_eq_true rfl), ?_⟩
      refine ⟨rfl, ?_⟩
      tm_at "rzs"
      intro p7 H7 f7 s7 g7
      refine ⟨p7, _, rfl, sqT g7, rfl, ?_⟩
      refine ⟨_, _, rfl, ?_⟩
      refine ⟨_, rfl, x, _, dx, _, rfl, s7 _ _ upd_same, T.c_Style.cls, T.n_Style_least_wide, Nat.lt_of_succ_le (Nat.le_of_ble_eq_true rfl), ?_⟩
      refine ⟨_, _, rfl, ?_⟩
      refine ⟨_, rfl, x, _, dx, _, rfl, upd_same, T.c_Style.cls, T.n_Style_least_high, Nat.lt_of_succ_le (Nat.le_of_ble_eq_true rfl), ?_⟩
      refine ⟨rfl, ?_⟩
      tm_at "rzs"
      intro p8 H8 f8 s8 g8
      refine ⟨p8, _, rfl, sqT g8, rfl, ?_⟩
      refine ⟨_, _, rfl, ?_⟩
      refine ⟨_, rfl, x, _, dx, _, rfl, s8 _ _ upd_same, T.c_Style.cls, T.n_Style_most_wide, Nat.lt_of_succ_le (Nat.le_of_ble_eq_true rfl), ?_⟩
      refine ⟨_, _, rfl, ?_⟩
      refine ⟨_, rfl, x, _, dx, _, rfl, upd_same, T.c_Style.cls, T.n_Style_most_high, Nat.lt_of_succ_le (Nat.le_of_ble_eq_true rfl), ?_⟩
      refine ⟨rfl, ?_⟩
      tm_at "rzs"
      intro p9 H9 f9 s9 g9
      refine ⟨p9, _, rfl, sqT g9, rfl, ?_⟩
      refine ⟨_, _, rfl, ?_⟩
      refine ⟨_, rfl, x, _, dx, _, rfl, s9 _ _ upd_same, T.c_Style.cls, T.n_Style_grow, Nat.lt_of_succ_le (Nat.le_of_ble_eq_true rfl), ?_⟩
      refine ⟨_, _, rfl, ?_⟩
      refine ⟨_, rfl, x, _, dx, _, rfl, upd_same, T.c_Style.cls, T.n_Style_shrink, Nat.lt_of_succ_le (Nat.le_of_ble_eq_true rfl), ?_⟩
      refine ⟨rfl, ?_⟩
      tm_at "rzs"
      intro p10 H10 f10 s10 g10
      refine ⟨p10, _, rfl, sqT g10, rfl, ?_⟩
      refine ⟨_, _, rfl, ?_⟩
      refine ⟨_, rfl, x, _, dx, _, rfl, s10 _ _ upd_same, T.c_Style.cls, T.n_Style_rims, Nat.lt_of_succ_le (Nat.le_of_ble_eq_true rfl), ?_⟩
      refine ⟨_, _, rfl, ?_⟩
      refine ⟨_, rfl, x, _, dx, _, rfl, upd_same, T.c_Style.cls, T.n_Style_stand, Nat.lt_of_succ_le (Nat.le_of_ble_eq_true rfl), ?_⟩
      refine ⟨rfl, ?_⟩
      refine k _ (by tm_at "bt") ?_
      rw [upd_same, styF_put]
end
end My
namespace My
open PySem PySem.Spec PyProof.Rows L2
section
variable {P : Program} {w : World} {K : PySem.W.Frag} {mg : Str → Option Value} {base : Heap}
def sp_checked_name : Sp := fun vs H Q _ => ∃ (l : List Nat), vs = [.str (sO l)] ∧ NameOk l ∧ ∀ H', Same H H' → Q (.str (sO l)) H'
theorem ok_checked_name (T : Tx w K mg) : FnOk P w K mg base CX0 2 T.d_checked_name.f T.d_checked_name.fd ["name"] (sp_checked_name) := by
  refine T.d_checked_name.F.ok sc_checked_name (fun vs H Q E h => ?_) (fun cdv A outer s H vs Q E hr h => ?_)
  · obtain ⟨l, rfl, _⟩ := h
    rfl
  · obtain ⟨l, rfl, hl, k⟩ := h
    refine ⟨_, (pss_cons (ps_if (pt_not (pt_val (pe_call (ok_is_name T) (hr.mono (by decide)) (by rfl) T.d_is_name.g T.d_is_name.F.kp T.d_is_name.b .nil pass0 (pa_cons (pv 0) pa_nil))))
      (pss_one ps_never)
      pss_nil)
      (pss_one (ps_ret (pv 0)))), ?_⟩
    tm_at "rzs"
    refine fun H1 s1 => ?_
    tm_at "rzs"
    exact k H1 s1
end
end My
namespace My
open PySem PySem.Spec PyProof.Rows L2
section
variable {P : Program} {w : World} {K : PySem.W.Frag} {mg : Str → Option Value} {base : Heap}
def sp_checked_style (K : PySem.W.Frag) (S U : Addr) : Sp := fun vs H Q _ => ∃ v : V, vs = [v] ∧ ((v = .non ∧ ∀ (y dy : Addr) H', Same H H' → H' y = some (.ins S dy (styL (dfltL U))) → Q (.ref y) H') ∨ ∃ (y dy : Addr) (st : List V), v = .ref y ∧ H y = some (.ins S dy (styL st)) ∧ Q (.ref y) H)
theorem ok_checked_style (T : Tx w K mg) : FnOk P w K mg base CX0 6 T.d_checked_style.f T.d_checked_style.fd ["style"] (sp_checked_style K T.c_Style.C T.U_NO_RIMS) := by
  refine T.d_checked_style.F.ok sc_checked_style (fun vs H Q E h => ?_) (fun cdv A outer s H vs Q E hr h => ?_)
  · obtain ⟨v, rfl, _⟩ := h
    rfl
  · obtain ⟨v, rfl, hv⟩ := h
    refine ⟨_, (pss_cons (ps_if (pt_cmpR op_isN (pv 0) pe_non (nomark _))
      (pss_one (ps_ret (pe_makeK0 T.d_Style_init.mks (ok_Style_init T) (hr.mono (by decide)) (by rfl) T.c_Style.g (Classical.choose_spec (kb_Style_init_1_ T)) pass0 pk_nil)))
      pss_nil)
      (pss_cons (ps_if (pt_not (pt_val (pe_callB (call_isiK (K := K) rfl) (by rfl) T.b_isinstance (by decide +kernel) (pa_cons (pv 0) (pa_cons (pe_glob (v := .ref T.c_Style.C) (by rfl) T.c_Style.g rfl) pa_nil)))))
      (pss_one ps_never)
      pss_nil)
      (pss_one (ps_ret (pv 0))))), ?_⟩
    rcases hv with ⟨rfl, k⟩ | ⟨y, dy, st, rfl, hy, k⟩
    · tm_at "rzs"
      exact mk_style (fs := dfltL T.U_NO_RIMS) (dflt_ok T.t_NO_RIMS) fun x dx H' s _ g => k _ _ H' s g
    · tm_at "rzs"
      refine ⟨_, _, _, _, true, rfl, .own _, .base (.ins hy T.c_Style.cls T.wc_Style T.wg T.wt T.wm_Style), T.ki_Style, ?_⟩
      tm_at "rzs"
      exact k
end
end My
namespace My
open PySem PySem.Spec PyProof.Rows L2
section
variable {P : Program} {w : World} {K : PySem.W.Frag} {mg : Str → Option Value} {base : Heap}
theorem ok_Box_held_boxes (T : Tx w K mg) : FnOk P w K mg base CX0 1 T.d_Box_held_boxes.f T.d_Box_held_boxes.fd ["self"] (sp_held2 (bcT T) T.c_Style.C K) := by
  refine T.d_Box_held_boxes.F.ok sc_Box_held_boxes (fun vs H Q E h => ?_) (fun cdv A outer s H vs Q E hr h => ?_)
  · obtain ⟨_, rfl, _⟩ := h
    rfl
  · refine ⟨_, (pss_one (ps_ret (pe_tupA pa_nil))), ?_⟩
    obtain ⟨t, rfl, hb, hk, k⟩ := h
    tm_at "rzs"
    intro p H1 f1 s1 g1
    refine k p H1 s1 ?_
    rw [hb.leaf hk]
    exact g1
end
end My
namespace My
open PySem PySem.Spec PyProof.Rows L2
section
variable {P : Program} {w : World} {K : PySem.W.Frag} {mg : Str → Option Value} {base : Heap}
def sp_checked_boxes (bc : Kd → Addr) (S : Addr) (K : PySem.W.Frag) : Sp := fun vs H Q _ => ∃ (a : Addr) (ks : List At), vs = [.ref a] ∧ H a = some (.lst (refs ks)) ∧ ks.length ≤ 1000 ∧ (∀ k ∈ ks, BoxAt bc S K H k) ∧ ∀ p H', Same H H' → H p = none → H' p = some (.tup (refs ks)) → Q (.ref p) H'
theorem ok_checked_boxes (T : Tx w K mg) : FnOk P w K mg base CX0 1 T.d_checked_boxes.f T.d_checked_boxes.fd ["boxes"] (sp_checked_boxes (bcT T) T.c_Style.C K) := by
  refine T.d_checked_boxes.F.ok sc_checked_boxes (fun vs H Q E h => ?_) (fun cdv A outer s H vs Q E hr h => ?_)
  · obtain ⟨a, ks, rfl, _⟩ := h
    rfl
  · obtain ⟨a, ks, rfl, ha, hl, hw, k⟩ := h
    refine ⟨_, (pss_cons (ps_if (PW.pt (pw_or (pt_not (pt_val (pe_callB is_list (by rfl) T.b_isinstance (by decide +kernel) (pa_cons (pv 0) (pa_cons (pe_bltn (v := .ty "list") (by rfl) T.b_list (by decide +kernel) rfl) pa_nil))))) (pw_or1 (pt_not (pt_val (pe_callB (cr_allK (K := K) rfl rfl) (by rfl) T.b_all (by decide +kernel) (pa_cons (pe_lc (own := [("box", 1)]) (g := gName 1) (by rfl) sc_checked_boxes.nd (pi_listK (K := K) rfl (pv 0)) (blkOk_by (own := [("box", 1)]) (N := N_checked_boxes) (sc := defScope s_checked_boxes) (by decide +kernel)) (fun _ _ _ _ _ => (pg_name (i := 1) sc_checked_boxes.nd rfl (Or.inl rfl))) (fun _ _ _ _ _ => pts_nil) (fun _ _ _ _ _ => (pe_callB (call_isiK (K := K) rfl) (by rfl) T.b_isinstance (by decide +kernel) (pa_cons (pv 1) (pa_cons (pe_glob (v := .ref T.c_Box.C) (by rfl) T.c_Box.g rfl) pa_nil))))) pa_nil)))))))
      (pss_one ps_never)
      pss_nil)
      (pss_one (ps_ret (pe_callTy (call_tupLK (K := K) rfl) (by rfl) T.b_tuple (by decide +kernel) (pa_cons (pv 0) pa_nil))))), ?_⟩
    tm_at "rzs"
    refine ⟨⟨_, sqL ha⟩, fun D hD => lcLx (K := K) (xs := refs ks) (fun _ => .bl true) hD (sqL ha) (by unfold refs; rw [List.length_map]; omega) (fun i x H2 Kt Kf hx s2 kk => ?_) (fun H2 s2 g2 => ?_)⟩
    · obtain ⟨t, mt, rfl⟩ := of_map hx
      have ht := (hw t (List.mem_of_getElem? mt)).ks (Same.ks s2)
      tm_at "rzs"
      refine ⟨_, _, _, _, true, rfl, .own _, ht.tyx (kdT T), (kdT T).box _, ?_⟩
      exact kk _ (Same.refl _)
    rw [bls _ fun _ => true] at g2
    tm_at "rzs"
    refine ⟨D, _, rfl, sqL g2, ?_⟩
    rw [all_true]
    tm_at "rzs"
    refine ⟨a, refs ks, rfl, sqL (s2 _ _ ha), fun p H3 f3 s3 g3 => ?_⟩
    exact k p H3 (s2.trans s3) (s2.free f3) g3
end
end My
namespace My
open PySem PySem.Spec PyProof.Rows L2
section
variable {P : Program} {w : World} {K : PySem.W.Frag} {mg : Str → Option Value} {base : Heap}
def sp_checked_gap : Sp := fun vs H Q _ => ∃ n : Int, vs = [.int n] ∧ 0 ≤ n ∧ Q (.int n) H
theorem ok_checked_gap (T : Tx w K mg) : FnOk P w K mg base CX0 3 T.d_checked_gap.f T.d_checked_gap.fd ["gap"] (sp_checked_gap) := by
  refine T.d_checked_gap.F.ok sc_checked_gap (fun vs H Q E h => ?_) (fun cdv A outer s H vs Q E hr h => ?_)
  · obtain ⟨n, rfl, _⟩ := h
    rfl
  · obtain ⟨n, rfl, hn, k⟩ := h
    refine ⟨_, (pss_cons (ps_if (pt_not (pt_val (pe_call (ok_is_count T) (hr.mono (by decide)) (by rfl) T.d_is_count.g T.d_is_count.F.kp T.d_is_count.b .nil pass0 (pa_cons (pv 0) pa_nil))))
      (pss_one ps_never)
      pss_nil)
      (pss_one (ps_ret (pv 0)))), ?_⟩
    tm_at "rzs"
    refine iteF' (by show (!decide (0 ≤ n)) = false; rw [decide_eq_true hn]; rfl) ?_
    tm_at "rzs"
    exact k
end
end My
namespace My
open PySem PySem.Spec PyProof.Rows L2
section
variable {P : Program} {w : World} {K : PySem.W.Frag} {mg : Str → Option Value} {base : Heap}
def sp_checked_pack : Sp := fun vs H Q _ => ∃ t : String, vs = [sX t] ∧ t ∈ ["start", "end", "middle", "between"] ∧ Q (sX t) H
theorem ok_checked_pack (T : Tx w K mg) : FnOk P w K mg base CX0 1 T.d_checked_pack.f T.d_checked_pack.fd ["pack"] (sp_checked_pack) := by
  refine T.d_checked_pack.F.ok sc_checked_pack (fun vs H Q E h => ?_) (fun cdv A outer s H vs Q E hr h => ?_)
  · obtain ⟨t, rfl, _⟩ := h
    rfl
  · obtain ⟨t, rfl, ht, k⟩ := h
    refine ⟨_, (pss_cons (ps_if (pt_cmpR (op_notInK (K := K) rfl) (pv 0) (pe_glob (v := .ref T.U_PACKS) (by rfl) T.v_PACKS rfl) (by rfl))
      (pss_one ps_never)
      pss_nil)
      (pss_one (ps_ret (pv 0)))), ?_⟩
    have hin : inV (sX t) [.str (Str.ofString "start"), .str (Str.ofString "end"), .str (Str.ofString "middle"), .str (Str.ofString "between")] = true := by
      simp only [List.mem_cons, List.not_mem_nil, or_false] at ht
      rcases ht with rfl | rfl | rfl | rfl <;> decide +kernel
    tm_at "rzs"
    refine ⟨_, _, rfl, .inr (T.t_PACKS _), rfl, rfl, ?_⟩
    rw [if_pos rfl, hin]
    tm_at "rzs"
    exact k
end
end My
namespace My
open PySem PySem.Spec PyProof.Rows L2
section
variable {P : Program} {w : World} {K : PySem.W.Frag} {mg : Str → Option Value} {base : Heap}
def sp_checked_stands : Sp := fun vs H Q _ => ∃ t : String, vs = [sX t] ∧ t ∈ ["start", "end", "middle", "stretch", "base"] ∧ Q (sX t) H
theorem ok_checked_stands (T : Tx w K mg) : FnOk P w K mg base CX0 1 T.d_checked_stands.f T.d_checked_stands.fd ["stands"] (sp_checked_stands) := by
  refine T.d_checked_stands.F.ok sc_checked_stands (fun vs H Q E h => ?_) (fun cdv A outer s H vs Q E hr h => ?_)
  · obtain ⟨t, rfl, _⟩ := h
    rfl
  · obtain ⟨t, rfl, ht, k⟩ := h
    refine ⟨_, (pss_cons (ps_if (pt_cmpR (op_notInK (K := K) rfl) (pv 0) (pe_glob (v := .ref T.U_STANDS) (by rfl) T.v_STANDS rfl) (by rfl))
      (pss_one ps_never)
      pss_nil)
      (pss_one (ps_ret (pv 0)))), ?_⟩
    have hin : inV (sX t) [.str (Str.ofString "start"), .str (Str.ofString "end"), .str (Str.ofString "middle"), .str (Str.ofString "stretch"), .str (Str.ofString "base")] = true := by
      simp only [List.mem_cons, List.not_mem_nil, or_false] at ht
      rcases ht with rfl | rfl | rfl | rfl | rfl <;> decide +kernel
    tm_at "rzs"
    refine ⟨_, _, rfl, .inr (T.t_STANDS _), rfl, rfl, ?_⟩
    rw [if_pos rfl, hin]
    tm_at "rzs"
    exact k
end
end My
namespace My
open PySem PySem.Spec PyProof.Rows L2
section
variable {P : Program} {w : World} {K : PySem.W.Frag} {mg : Str → Option Value} {base : Heap}
theorem kb_Words_init_3_style (T : Tx w K mg) : ∃ mv : List Value, KBn K T.d_Words_init.fd ["self", "name", "text", "style"] 3 ["style"] (fun us ws => pick1 0 us ++ pick1 1 us ++ pick1 2 us ++ pick1 0 ws) (fun vs zs => pick1 0 vs ++ pick1 1 vs ++ pick1 2 vs ++ pick1 0 zs) := by
  exact T.d_Words_init.FD.kbinds0 3 ["style"] [] (fun us mv ws => pick1 0 us ++ pick1 1 us ++ pick1 2 us ++ pick1 0 ws) (by intro z; cases z) (fun q hq => List.Sublist.subset (show List.Sublist _ _ from (.cons _ .slnil)) hq) (fun r1 rm r2 => ((((vals_pick r1 0).append (vals_pick r1 1)).append (vals_pick r1 2)).append (vals_pick r2 0)))
    (fun D doc pm an cdv ct us mv ws h1 hm h2 => match us, mv, ws, h1, hm, h2 with | [_, _, _], [], [_], _, _, _ => (show _ = _ by kernel_rfl))
def sp_Words_init (bc : Kd → Addr) (S U : Addr) (K : PySem.W.Frag) : Sp := fun vs H Q _ => ∃ (x dx : Addr) (l t : List Nat) (sv : V), vs = [.ref x, .str (sO l), .str (sO t), sv] ∧ H x = some (.ins (bc .words) dx []) ∧ NameOk l ∧ t.length ≤ 10000 ∧ StyAt K H S U sv ∧ ∀ H' st, But x H H' → StyIs K H S U sv st → BoxAt bc S K H' (.mk x l st (.words t) []) → Q .non H'
theorem ok_Words_init (T : Tx w K mg) : FnOk P w K mg base CX0 7 T.d_Words_init.f T.d_Words_init.fd ["self", "name", "text", "style"] (sp_Words_init (bcT T) T.c_Style.C T.U_NO_RIMS K) := by
  refine T.d_Words_init.F.ok sc_Words_init (fun vs H Q E h => ?_) (fun cdv A outer s H vs Q E hr h => ?_)
  · obtain ⟨x, dx, l, t, sv, rfl, _⟩ := h
    rfl
  · obtain ⟨x, dx, l, t, sv, rfl, hx, hl, ht, hs, k⟩ := h
    refine ⟨_, (pss_cons (ps_fld (pv 0) (pe_call (ok_checked_name T) (hr.mono (by decide)) (by rfl) T.d_checked_name.g T.d_checked_name.F.kp T.d_checked_name.b .nil pass0 (pa_cons (pv 1) pa_nil)) rfl)
      (pss_cons (ps_if (pt_not (pt_val (pe_callB is_str (by rfl) T.b_isinstance (by decide +kernel) (pa_cons (pv 2) (pa_cons (pe_bltn (v := .ty "str") (by rfl) T.b_str (by decide +kernel) rfl) pa_nil)))))
      (pss_one ps_never)
      pss_nil)
      (pss_cons (ps_fld (pv 0) (pv 2) rfl)
      (pss_one (ps_fld (pv 0) (pe_call (ok_checked_style T) (hr.mono (by decide)) (by rfl) T.d_checked_style.g T.d_checked_style.F.kp T.d_checked_style.b .nil pass0 (pa_cons (pv 3) pa_nil)) rfl))))), ?_⟩
    tm_at "rzs"
    refine fun H1 s1 => ?_
    tm_at "rzs"
    refine ⟨x, _, dx, _, rfl, s1 _ _ hx, T.c_Words.cls, T.n_Words_name, Nat.lt_of_succ_le (Nat.le_of_ble_eq_true rfl), ?_⟩
    refine upd_gen fun H2 b2 g2 => ?_
    tm_at "rzs"
    refine ⟨x, _, dx, _, rfl, g2, T.c_Words.cls, T.n_Words_text, Nat.lt_of_succ_le (Nat.le_of_ble_eq_true rfl), ?_⟩
    refine upd_gen fun H3 b3 g3 => ?_
    tm_at "rzs"
    have B3 : But x H H3 := (Same.but s1).trans (b2.trans b3)
    refine sty_step hs T.t_NO_RIMS (KeepS.butE B3 hx) fun y dy st H4 s4 si gy ls ok => ?_
    tm_at "rzs"
    refine ⟨x, _, dx, _, rfl, s4 _ _ g3, T.c_Words.cls, T.n_Words_style, Nat.lt_of_succ_le (Nat.le_of_ble_eq_true rfl), ?_⟩
    refine upd_gen fun H5 b5 g5 => ?_
    have ny := sty_ne gy ls (s4 _ _ g3) (show 2 ≠ 10 by decide)
    have B5 : But x H H5 := B3.trans ((Same.but s4).trans b5)
    exact k H5 st B5 si (.words g5 (b5 _ _ ny gy) (ok _ (KeepS.butE B5 hx)) hl ht)
end
end My
namespace My
open PySem PySem.Spec PyProof.Rows L2
section
variable {P : Program} {w : World} {K : PySem.W.Frag} {mg : Str → Option Value} {base : Heap}
theorem kb_Picture_init_4_style (T : Tx w K mg) : ∃ mv : List Value, KBn K T.d_Picture_init.fd ["self", "name", "across", "down", "style"] 4 ["style"] (fun us ws => pick1 0 us ++ pick1 1 us ++ pick1 2 us ++ pick1 3 us ++ pick1 0 ws) (fun vs zs => pick1 0 vs ++ pick1 1 vs ++ pick1 2 vs ++ pick1 3 vs ++ pick1 0 zs) := by
  exact T.d_Picture_init.FD.kbinds0 4 ["style"] [] (fun us mv ws => pick1 0 us ++ pick1 1 us ++ pick1 2 us ++ pick1 3 us ++ pick1 0 ws) (by intro z; cases z) (fun q hq => List.Sublist.subset (show List.Sublist _ _ from (.cons _ .slnil)) hq) (fun r1 rm r2 => (((((vals_pick r1 0).append (vals_pick r1 1)).append (vals_pick r1 2)).append (vals_pick r1 3)).append (vals_pick r2 0)))
    (fun D doc pm an cdv ct us mv ws h1 hm h2 => match us, mv, ws, h1, hm, h2 with | [_, _, _, _], [], [_], _, _, _ => (show _ = _ by kernel_rfl))
def sp_Picture_init (bc : Kd → Addr) (S U : Addr) (K : PySem.W.Frag) : Sp := fun vs H Q _ => ∃ (x dx : Addr) (l : List Nat) (a d : Int) (sv : V), vs = [.ref x, .str (sO l), .int a, .int d, sv] ∧ H x = some (.ins (bc .picture) dx []) ∧ NameOk l ∧ 1 ≤ a ∧ 1 ≤ d ∧ StyAt K H S U sv ∧ ∀ H' st, But x H H' → StyIs K H S U sv st → BoxAt bc S K H' (.mk x l st (.picture a d) []) → Q .non H'
theorem ok_Picture_init (T : Tx w K mg) : FnOk P w K mg base CX0 7 T.d_Picture_init.f T.d_Picture_init.fd ["self", "name", "across", "down", "style"] (sp_Picture_init (bcT T) T.c_Style.C T.U_NO_RIMS K) := by
  refine T.d_Picture_init.F.ok sc_Picture_init (fun vs H Q E h => ?_) (fun cdv A outer s H vs Q E hr h => ?_)
  · obtain ⟨x, dx, l, a, d, sv, rfl, _⟩ := h
    rfl
  · obtain ⟨x, dx, l, a, d, sv, rfl, hx, hl, ha, hd, hs, k⟩ := h
    refine ⟨_, (pss_cons (ps_fld (pv 0) (pe_call (ok_checked_name T) (hr.mono (by decide)) (by rfl) T.d_checked_name.g T.d_checked_name.F.kp T.d_checked_name.b .nil pass0 (pa_cons (pv 1) pa_nil)) rfl)
      (pss_cons (ps_for PassesOwn.never (by rfl) (pi_tupK (K := K) rfl (pe_tupA (pa_cons (pv 2) (pa_cons (pv 3) pa_nil)))) (pg_name (i := 5) sc_Picture_init.nd rfl (Or.inl rfl))
      (pss_one (ps_if (PW.pt (pw_or (pt_not (pt_val (pe_call (ok_is_whole T) (hr.mono (by decide)) (by rfl) T.d_is_whole.g T.d_is_whole.F.kp T.d_is_whole.b .nil pass0 (pa_cons (pv 5) pa_nil)))) (pw_or1 (pt_cmpR op_lt (pv 5) pe_int (nomark _)))))
      (pss_one ps_never)
      pss_nil)))
      (pss_cons (ps_asg (pe_tupA (pa_cons (pv 2) (pa_cons (pv 3) pa_nil))) (pg_tup (by rfl) (pgs_cons (pg_fldK (K := K) rfl (pv 0)) (pgs_cons (pg_fldK (K := K) rfl (pv 0)) pgs_nil))))
      (pss_one (ps_fld (pv 0) (pe_call (ok_checked_style T) (hr.mono (by decide)) (by rfl) T.d_checked_style.g T.d_checked_style.F.kp T.d_checked_style.b .nil pass0 (pa_cons (pv 4) pa_nil)) rfl))))), ?_⟩
    tm_at "rzs"
    refine fun H1 s1 => ?_
    tm_at "rzs"
    refine ⟨x, _, dx, _, rfl, s1 _ _ hx, T.c_Picture.cls, T.n_Picture_name, Nat.lt_of_succ_le (Nat.le_of_ble_eq_true rfl), ?_⟩
    refine upd_gen fun H2 b2 g2 => ?_
    have B2 : But x H H2 := (Same.but s1).trans b2
    tm_at "rzs"
    intro p3 H3 f3 s3 g3
    refine ⟨p3, rfl, ⟨_, sqT g3⟩, for_tup (K := K) (a := p3) (xs := [.int a, .int d]) (fun i σ H' => ∃ v5 : Option V, σ = [some (.ref x), some (.str (sO l)), some (.int a), some (.int d), some sv, v5] ∧ Same H3 H') ⟨_, rfl, Same.refl _⟩ (fun i σ H' _ ⟨_, _, s⟩ => sqT (s _ _ g3)) ?_ ?_⟩
    · rintro i v σ H4 hv ⟨v5, rfl, s4⟩
      obtain ⟨n, rfl, hn⟩ : ∃ n : Int, v = .int n ∧ 1 ≤ n := by
        match i, hv with
        | 0, e => cases e; exact ⟨a, rfl, ha⟩
        | 1, e => cases e; exact ⟨d, rfl, hd⟩
        | n + 2, e => cases e
      dsimp only [gName]
      tm_at "rzs"
      refine iteF' (decide_eq_false (by omega)) ?_
      tm_at "rzs"
      exact s4
    · rintro σ H4 ⟨v5, rfl, s4⟩
      tm_at "rzs"
      intro p5 H5 f5 s5 g5
      have g25 := s5 _ _ (s4 _ _ (s3 _ _ g2))
      refine ⟨p5, _, rfl, sqT g5, rfl, ?_⟩
      refine ⟨_, _, rfl, ?_⟩
      refine ⟨_, rfl, x, _, dx, _, rfl, g25, T.c_Picture.cls, T.n_Picture_across, Nat.lt_of_succ_le (Nat.le_of_ble_eq_true rfl), ?_⟩
      with_reducible refine upd_gen (R := fun Hq => gCons (gFld K (tVar 0) "down") gNil _ _ Hq _) fun H6 b6 g6 => ?_
      refine ⟨_, _, rfl, ?_⟩
      refine ⟨_, rfl, x, _, dx, _, rfl, g6, T.c_Picture.cls, T.n_Picture_down, Nat.lt_of_succ_le (Nat.le_of_ble_eq_true rfl), ?_⟩
      with_reducible refine upd_gen (R := fun Hq => gNil _ _ Hq _) fun H7 b7 g7 => ?_
      refine ⟨rfl, ?_⟩
      have B7 : But x H H7 := B2.trans ((Same.but ((s3.trans s4).trans s5)).trans (b6.trans b7))
      tm_at "rzs"
      refine sty_step hs T.t_NO_RIMS (KeepS.butE B7 hx) fun y dy st H8 s8 si gy ls ok => ?_
      tm_at "rzs"
      refine ⟨x, _, dx, _, rfl, s8 _ _ g7, T.c_Picture.cls, T.n_Picture_style, Nat.lt_of_succ_le (Nat.le_of_ble_eq_true rfl), ?_⟩
      refine upd_gen fun H9 b9 g9 => ?_
      have ny := sty_ne gy ls (s8 _ _ g7) (show 3 ≠ 10 by decide)
      have B9 : But x H H9 := B7.trans ((Same.but s8).trans b9)
      exact k H9 st B9 si (.picture g9 (b9 _ _ ny gy) (ok _ (KeepS.butE B9 hx)) hl ha hd)
end
end My
namespace My
open PySem PySem.Spec PyProof.Rows L2
section
variable {P : Program} {w : World} {K : PySem.W.Frag} {mg : Str → Option Value} {base : Heap}
theorem kb_Row_init_3_turn_gap_lane_pack_stands_style (T : Tx w K mg) : ∃ mv : List Value, KBn K T.d_Row_init.fd ["self", "name", "boxes", "turn", "gap", "lane", "pack", "stands", "style"] 3 ["turn", "gap", "lane", "pack", "stands", "style"] (fun us ws => pick1 0 us ++ pick1 1 us ++ pick1 2 us ++ pick1 0 ws ++ pick1 1 ws ++ pick1 2 ws ++ pick1 3 ws ++ pick1 4 ws ++ pick1 5 ws) (fun vs zs => pick1 0 vs ++ pick1 1 vs ++ pick1 2 vs ++ pick1 0 zs ++ pick1 1 zs ++ pick1 2 zs ++ pick1 3 zs ++ pick1 4 zs ++ pick1 5 zs) := by
  exact T.d_Row_init.FD.kbinds0 3 ["turn", "gap", "lane", "pack", "stands", "style"] [] (fun us mv ws => pick1 0 us ++ pick1 1 us ++ pick1 2 us ++ pick1 0 ws ++ pick1 1 ws ++ pick1 2 ws ++ pick1 3 ws ++ pick1 4 ws ++ pick1 5 ws) (by intro z; cases z) (fun q hq => List.Sublist.subset (show List.Sublist _ _ from (.cons _ (.cons _ (.cons _ (.cons _ (.cons _ (.cons _ .slnil))))))) hq) (fun r1 rm r2 => (((((((((vals_pick r1 0).append (vals_pick r1 1)).append (vals_pick r1 2)).append (vals_pick r2 0)).append (vals_pick r2 1)).append (vals_pick r2 2)).append (vals_pick r2 3)).append (vals_pick r2 4)).append (vals_pick r2 5)))
    (fun D doc pm an cdv ct us mv ws h1 hm h2 => match us, mv, ws, h1, hm, h2 with | [_, _, _], [], [_, _, _, _, _, _], _, _, _ => (show _ = _ by kernel_rfl))
def sp_Row_init (bc : Kd → Addr) (S U : Addr) (K : PySem.W.Frag) : Sp := fun vs H Q _ => ∃ (x dx p : Addr) (l : List Nat) (ks : List At) (turn : Bool) (gap lane : Int) (pack stands : String) (sv : V), vs = [.ref x, .str (sO l), .ref p, .bl turn, .int gap, .int lane, sX pack, sX stands, sv] ∧ H x = some (.ins (bc .row) dx []) ∧ NameOk l ∧ H p = some (.lst (refs ks)) ∧ ks.length ≤ 1000 ∧ (∀ k ∈ ks, BoxAt bc S K H k) ∧ 0 ≤ gap ∧ 0 ≤ lane ∧ pack ∈ ["start", "end", "middle", "between"] ∧ stands ∈ ["start", "end", "middle", "stretch", "base"] ∧ StyAt K H S U sv ∧
  ∀ H' st, But x H H' → StyIs K H S U sv st → BoxAt bc S K H' (.mk x l st (.row turn gap lane pack stands) ks) → Q .non H'
theorem ok_Row_init (T : Tx w K mg) : FnOk P w K mg base CX0 7 T.d_Row_init.f T.d_Row_init.fd ["self", "name", "boxes", "turn", "gap", "lane", "pack", "stands", "style"] (sp_Row_init (bcT T) T.c_Style.C T.U_NO_RIMS K) := by
  refine T.d_Row_init.F.ok sc_Row_init (fun vs H Q E h => ?_) (fun cdv A outer s H vs Q E hr h => ?_)
  · obtain ⟨x, dx, p, l, ks, turn, gap, lane, pack, stands, sv, rfl, _⟩ := h
    rfl
  · obtain ⟨x, dx, p, l, ks, turn, gap, lane, pack, stands, sv, rfl, hx, hl, hp, lk, hk, g0, l0, mp, ms, hs, k⟩ := h
    refine ⟨_, (pss_cons (ps_fld (pv 0) (pe_call (ok_checked_name T) (hr.mono (by decide)) (by rfl) T.d_checked_name.g T.d_checked_name.F.kp T.d_checked_name.b .nil pass0 (pa_cons (pv 1) pa_nil)) rfl)
      (pss_cons (ps_fld (pv 0) (pe_call (ok_checked_boxes T) (hr.mono (by decide)) (by rfl) T.d_checked_boxes.g T.d_checked_boxes.F.kp T.d_checked_boxes.b .nil pass0 (pa_cons (pv 2) pa_nil)) rfl)
      (pss_cons (ps_if (pt_not (pt_val (pe_callB is_bool (by rfl) T.b_isinstance (by decide +kernel) (pa_cons (pv 3) (pa_cons (pe_bltn (v := .ty "bool") (by rfl) T.b_bool (by decide +kernel) rfl) pa_nil)))))
      (pss_one ps_never)
      pss_nil)
      (pss_cons (ps_fld (pv 0) (pv 3) rfl)
      (pss_cons (ps_fld (pv 0) (pe_call (ok_checked_gap T) (hr.mono (by decide)) (by rfl) T.d_checked_gap.g T.d_checked_gap.F.kp T.d_checked_gap.b .nil pass0 (pa_cons (pv 4) pa_nil)) rfl)
      (pss_cons (ps_fld (pv 0) (pe_call (ok_checked_gap T) (hr.mono (by decide)) (by rfl) T.d_checked_gap.g T.d_checked_gap.F.kp T.d_checked_gap.b .nil pass0 (pa_cons (pv 5) pa_nil)) rfl)
      (pss_cons (ps_fld (pv 0) (pe_call (ok_checked_pack T) (hr.mono (by decide)) (by rfl) T.d_checked_pack.g T.d_checked_pack.F.kp T.d_checked_pack.b .nil pass0 (pa_cons (pv 6) pa_nil)) rfl)
      (pss_cons (ps_fld (pv 0) (pe_call (ok_checked_stands T) (hr.mono (by decide)) (by rfl) T.d_checked_stands.g T.d_checked_stands.F.kp T.d_checked_stands.b .nil pass0 (pa_cons (pv 7) pa_nil)) rfl)
      (pss_one (ps_fld (pv 0) (pe_call (ok_checked_style T) (hr.mono (by decide)) (by rfl) T.d_checked_style.g T.d_checked_style.F.kp T.d_checked_style.b .nil pass0 (pa_cons (pv 8) pa_nil)) rfl)))))))))), ?_⟩
    tm_at "rzs"
    refine fun H1 s1 => ?_
    tm_at "rzs"
    refine ⟨x, _, dx, _, rfl, s1 _ _ hx, T.c_Row.cls, T.n_Row_name, Nat.lt_of_succ_le (Nat.le_of_ble_eq_true rfl), ?_⟩
    refine upd_gen fun H2 b2 g2 => ?_
    have B2 : But x H H2 := (Same.but s1).trans b2
    have K2 := KeepS.butE B2 hx
    have npx : p ≠ x := by rintro rfl; rw [hx] at hp; cases hp
    tm_at "rzs"
    refine ⟨p, ks, rfl, B2 _ _ npx hp, lk, fun j m => (hk j m).ks K2, fun q H3 s3 f3 g3 => ?_⟩
    have nqx : q ≠ x := by rintro rfl; rw [g2] at f3; cases f3
    tm_at "rzs"
    refine ⟨x, _, dx, _, rfl, s3 _ _ g2, T.c_Row.cls, T.n_Row_boxes, Nat.lt_of_succ_le (Nat.le_of_ble_eq_true rfl), ?_⟩
    refine upd_gen fun H4 b4 g4 => ?_
    tm_at "rzs"
    refine ⟨x, _, dx, _, rfl, g4, T.c_Row.cls, T.n_Row_turn, Nat.lt_of_succ_le (Nat.le_of_ble_eq_true rfl), ?_⟩
    refine upd_gen fun H5 b5 g5 => ?_
    tm_at "rzs"
    refine ⟨x, _, dx, _, rfl, g5, T.c_Row.cls, T.n_Row_gap, Nat.lt_of_succ_le (Nat.le_of_ble_eq_true rfl), ?_⟩
    refine upd_gen fun H6 b6 g6 => ?_
    tm_at "rzs"
    refine ⟨x, _, dx, _, rfl, g6, T.c_Row.cls, T.n_Row_lane, Nat.lt_of_succ_le (Nat.le_of_ble_eq_true rfl), ?_⟩
    refine upd_gen fun H7 b7 g7 => ?_
    tm_at "rzs"
    refine ⟨x, _, dx, _, rfl, g7, T.c_Row.cls, T.n_Row_pack, Nat.lt_of_succ_le (Nat.le_of_ble_eq_true rfl), ?_⟩
    refine upd_gen fun H8 b8 g8 => ?_
    tm_at "rzs"
    refine ⟨x, _, dx, _, rfl, g8, T.c_Row.cls, T.n_Row_stands, Nat.lt_of_succ_le (Nat.le_of_ble_eq_true rfl), ?_⟩
    refine upd_gen fun H9 b9 g9 => ?_
    have B49 : But x H3 H9 := b4.trans (b5.trans (b6.trans (b7.trans (b8.trans b9))))
    have B9 : But x H H9 := B2.trans ((Same.but s3).trans B49)
    tm_at "rzs"
    refine sty_step hs T.t_NO_RIMS (KeepS.butE B9 hx) fun y dy st H10 s10 si gy ls ok => ?_
    tm_at "rzs"
    refine ⟨x, _, dx, _, rfl, s10 _ _ g9, T.c_Row.cls, T.n_Row_style, Nat.lt_of_succ_le (Nat.le_of_ble_eq_true rfl), ?_⟩
    refine upd_gen fun H11 b11 g11 => ?_
    have ny := sty_ne gy ls (s10 _ _ g9) (show 7 ≠ 10 by decide)
    have B11 : But x H H11 := B9.trans ((Same.but s10).trans b11)
    exact k H11 st B11 si (.row g11 (b11 _ _ ny gy) (ok _ (KeepS.butE B11 hx)) hl g0 l0 (b11 _ _ nqx (s10 _ _ (B49 _ _ nqx g3))) lk fun j m => (hk j m).ks (KeepS.butE B11 hx))
end
end My
namespace My
open PySem PySem.Spec PyProof.Rows L2
section
variable {P : Program} {w : World} {K : PySem.W.Frag} {mg : Str → Option Value} {base : Heap}
theorem ok_Row_held_boxes (T : Tx w K mg) : FnOk P w K mg base CX0 1 T.d_Row_held_boxes.f T.d_Row_held_boxes.fd ["self"] (sp_held (bcT T) T.c_Style.C K .row) := by
  refine T.d_Row_held_boxes.F.ok sc_Row_held_boxes (fun vs H Q E h => ?_) (fun cdv A outer s H vs Q E hr h => ?_)
  · obtain ⟨_, rfl, _⟩ := h
    rfl
  · obtain ⟨t, rfl, hb, hk, k⟩ := h
    refine ⟨_, (pss_one (ps_ret (pe_fldK (K := K) rfl (pv 0) rfl))), ?_⟩
    tm_at "rzs"
    cases hb with
    | words => cases hk
    | picture => cases hk
    | row hx hy ok hn g0 l0 hb lk hk =>
      refine ⟨_, _, _, _, _, rfl, hx, T.c_Row.cls, T.n_Row_boxes, rfl, ?_⟩
      exact k _ H (Same.refl _) hb
    | pile => cases hk
    | grid => cases hk
end
end My
namespace My
open PySem PySem.Spec PyProof.Rows L2
section
variable {P : Program} {w : World} {K : PySem.W.Frag} {mg : Str → Option Value} {base : Heap}
theorem kb_Pile_init_3_gap_pack_stands_style (T : Tx w K mg) : ∃ mv : List Value, KBn K T.d_Pile_init.fd ["self", "name", "boxes", "gap", "pack", "stands", "style"] 3 ["gap", "pack", "stands", "style"] (fun us ws => pick1 0 us ++ pick1 1 us ++ pick1 2 us ++ pick1 0 ws ++ pick1 1 ws ++ pick1 2 ws ++ pick1 3 ws) (fun vs zs => pick1 0 vs ++ pick1 1 vs ++ pick1 2 vs ++ pick1 0 zs ++ pick1 1 zs ++ pick1 2 zs ++ pick1 3 zs) := by
  exact T.d_Pile_init.FD.kbinds0 3 ["gap", "pack", "stands", "style"] [] (fun us mv ws => pick1 0 us ++ pick1 1 us ++ pick1 2 us ++ pick1 0 ws ++ pick1 1 ws ++ pick1 2 ws ++ pick1 3 ws) (by intro z; cases z) (fun q hq => List.Sublist.subset (show List.Sublist _ _ from (.cons _ (.cons _ (.cons _ (.cons _ .slnil))))) hq) (fun r1 rm r2 => (((((((vals_pick r1 0).append (vals_pick r1 1)).append (vals_pick r1 2)).append (vals_pick r2 0)).append (vals_pick r2 1)).append (vals_pick r2 2)).append (vals_pick r2 3)))
    (fun D doc pm an cdv ct us mv ws h1 hm h2 => match us, mv, ws, h1, hm, h2 with | [_, _, _], [], [_, _, _, _], _, _, _ => (show _ = _ by kernel_rfl))
def sp_Pile_init (bc : Kd → Addr) (S U : Addr) (K : PySem.W.Frag) : Sp := fun vs H Q _ => ∃ (x dx p : Addr) (l : List Nat) (ks : List At) (gap : Int) (pack stands : String) (sv : V), vs = [.ref x, .str (sO l), .ref p, .int gap, sX pack, sX stands, sv] ∧ H x = some (.ins (bc .pile) dx []) ∧ NameOk l ∧ H p = some (.lst (refs ks)) ∧ ks.length ≤ 1000 ∧ (∀ k ∈ ks, BoxAt bc S K H k) ∧ 0 ≤ gap ∧ pack ∈ ["start", "end", "middle", "between"] ∧ stands ∈ ["start", "end", "middle", "stretch", "base"] ∧ StyAt K H S U sv ∧
  ∀ H' st, But x H H' → StyIs K H S U sv st → BoxAt bc S K H' (.mk x l st (.pile gap pack stands) ks) → Q .non H'
theorem ok_Pile_init (T : Tx w K mg) : FnOk P w K mg base CX0 7 T.d_Pile_init.f T.d_Pile_init.fd ["self", "name", "boxes", "gap", "pack", "stands", "style"] (sp_Pile_init (bcT T) T.c_Style.C T.U_NO_RIMS K) := by
  refine T.d_Pile_init.F.ok sc_Pile_init (fun vs H Q E h => ?_) (fun cdv A outer s H vs Q E hr h => ?_)
  · obtain ⟨x, dx, p, l, ks, gap, pack, stands, sv, rfl, _⟩ := h
    rfl
  · obtain ⟨x, dx, p, l, ks, gap, pack, stands, sv, rfl, hx, hl, hp, lk, hk, g0, mp, ms, hs, k⟩ := h
    refine ⟨_, (pss_cons (ps_fld (pv 0) (pe_call (ok_checked_name T) (hr.mono (by decide)) (by rfl) T.d_checked_name.g T.d_checked_name.F.kp T.d_checked_name.b .nil pass0 (pa_cons (pv 1) pa_nil)) rfl)
      (pss_cons (ps_fld (pv 0) (pe_call (ok_checked_boxes T) (hr.mono (by decide)) (by rfl) T.d_checked_boxes.g T.d_checked_boxes.F.kp T.d_checked_boxes.b .nil pass0 (pa_cons (pv 2) pa_nil)) rfl)
      (pss_cons (ps_fld (pv 0) (pe_call (ok_checked_gap T) (hr.mono (by decide)) (by rfl) T.d_checked_gap.g T.d_checked_gap.F.kp T.d_checked_gap.b .nil pass0 (pa_cons (pv 3) pa_nil)) rfl)
      (pss_cons (ps_fld (pv 0) (pe_call (ok_checked_pack T) (hr.mono (by decide)) (by rfl) T.d_checked_pack.g T.d_checked_pack.F.kp T.d_checked_pack.b .nil pass0 (pa_cons (pv 4) pa_nil)) rfl)
      (pss_cons (ps_fld (pv 0) (pe_call (ok_checked_stands T) (hr.mono (by decide)) (by rfl) T.d_checked_stands.g T.d_checked_stands.F.kp T.d_checked_stands.b .nil pass0 (pa_cons (pv 5) pa_nil)) rfl)
      (pss_one (ps_fld (pv 0) (pe_call (ok_checked_style T) (hr.mono (by decide)) (by rfl) T.d_checked_style.g T.d_checked_style.F.kp T.d_checked_style.b .nil pass0 (pa_cons (pv 6) pa_nil)) rfl))))))), ?_⟩
    tm_at "rzs"
    refine fun H1 s1 => ?_
    tm_at "rzs"
    refine ⟨x, _, dx, _, rfl, s1 _ _ hx, T.c_Pile.cls, T.n_Pile_name, Nat.lt_of_succ_le (Nat.le_of_ble_eq_true rfl), ?_⟩
    refine upd_gen fun H2 b2 g2 => ?_
    have B2 : But x H H2 := (Same.but s1).trans b2
    have K2 := KeepS.butE B2 hx
    have npx : p ≠ x := by rintro rfl; rw [hx] at hp; cases hp
    tm_at "rzs"
    refine ⟨p, ks, rfl, B2 _ _ npx hp, lk, fun j m => (hk j m).ks K2, fun q H3 s3 f3 g3 => ?_⟩
    have nqx : q ≠ x := by rintro rfl; rw [g2] at f3; cases f3
    tm_at "rzs"
    refine ⟨x, _, dx, _, rfl, s3 _ _ g2, T.c_Pile.cls, T.n_Pile_boxes, Nat.lt_of_succ_le (Nat.le_of_ble_eq_true rfl), ?_⟩
    refine upd_gen fun H4 b4 g4 => ?_
    tm_at "rzs"
    refine ⟨x, _, dx, _, rfl, g4, T.c_Pile.cls, T.n_Pile_gap, Nat.lt_of_succ_le (Nat.le_of_ble_eq_true rfl), ?_⟩
    refine upd_gen fun H5 b5 g5 => ?_
    tm_at "rzs"
    refine ⟨x, _, dx, _, rfl, g5, T.c_Pile.cls, T.n_Pile_pack, Nat.lt_of_succ_le (Nat.le_of_ble_eq_true rfl), ?_⟩
    refine upd_gen fun H8 b8 g8 => ?_
    tm_at "rzs"
    refine ⟨x, _, dx, _, rfl, g8, T.c_Pile.cls, T.n_Pile_stands, Nat.lt_of_succ_le (Nat.le_of_ble_eq_true rfl), ?_⟩
    refine upd_gen fun H9 b9 g9 => ?_
    have B49 : But x H3 H9 := b4.trans (b5.trans (b8.trans b9))
    have B9 : But x H H9 := B2.trans ((Same.but s3).trans B49)
    tm_at "rzs"
    refine sty_step hs T.t_NO_RIMS (KeepS.butE B9 hx) fun y dy st H10 s10 si gy ls ok => ?_
    tm_at "rzs"
    refine ⟨x, _, dx, _, rfl, s10 _ _ g9, T.c_Pile.cls, T.n_Pile_style, Nat.lt_of_succ_le (Nat.le_of_ble_eq_true rfl), ?_⟩
    refine upd_gen fun H11 b11 g11 => ?_
    have ny := sty_ne gy ls (s10 _ _ g9) (show 5 ≠ 10 by decide)
    have B11 : But x H H11 := B9.trans ((Same.but s10).trans b11)
    exact k H11 st B11 si (.pile g11 (b11 _ _ ny gy) (ok _ (KeepS.butE B11 hx)) hl g0 (b11 _ _ nqx (s10 _ _ (B49 _ _ nqx g3))) lk fun j m => (hk j m).ks (KeepS.butE B11 hx))
end
end My
namespace My
open PySem PySem.Spec PyProof.Rows L2
section
variable {P : Program} {w : World} {K : PySem.W.Frag} {mg : Str → Option Value} {base : Heap}
theorem ok_Pile_held_boxes (T : Tx w K mg) : FnOk P w K mg base CX0 1 T.d_Pile_held_boxes.f T.d_Pile_held_boxes.fd ["self"] (sp_held (bcT T) T.c_Style.C K .pile) := by
  refine T.d_Pile_held_boxes.F.ok sc_Pile_held_boxes (fun vs H Q E h => ?_) (fun cdv A outer s H vs Q E hr h => ?_)
  · obtain ⟨_, rfl, _⟩ := h
    rfl
  · obtain ⟨t, rfl, hb, hk, k⟩ := h
    refine ⟨_, (pss_one (ps_ret (pe_fldK (K := K) rfl (pv 0) rfl))), ?_⟩
    tm_at "rzs"
    cases hb with
    | words => cases hk
    | picture => cases hk
    | row => cases hk
    | pile hx hy ok hn g0 hb lk hk =>
      refine ⟨_, _, _, _, _, rfl, hx, T.c_Pile.cls, T.n_Pile_boxes, rfl, ?_⟩
      exact k _ H (Same.refl _) hb
    | grid => cases hk
end
end My
namespace My
open PySem PySem.Spec PyProof.Rows L2
section
variable {P : Program} {w : World} {K : PySem.W.Frag} {mg : Str → Option Value} {base : Heap}
theorem kb_Grid_init_4_columns_rows_gap_lane_stands_style (T : Tx w K mg) : ∃ mv : List Value, KBn K T.d_Grid_init.fd ["self", "name", "boxes", "spots", "columns", "rows", "gap", "lane", "stands", "style"] 4 ["columns", "rows", "gap", "lane", "stands", "style"] (fun us ws => pick1 0 us ++ pick1 1 us ++ pick1 2 us ++ pick1 3 us ++ pick1 0 ws ++ pick1 1 ws ++ pick1 2 ws ++ pick1 3 ws ++ pick1 4 ws ++ pick1 5 ws) (fun vs zs => pick1 0 vs ++ pick1 1 vs ++ pick1 2 vs ++ pick1 3 vs ++ pick1 0 zs ++ pick1 1 zs ++ pick1 2 zs ++ pick1 3 zs ++ pick1 4 zs ++ pick1 5 zs) := by
  exact T.d_Grid_init.FD.kbinds0 4 ["columns", "rows", "gap", "lane", "stands", "style"] [] (fun us mv ws => pick1 0 us ++ pick1 1 us ++ pick1 2 us ++ pick1 3 us ++ pick1 0 ws ++ pick1 1 ws ++ pick1 2 ws ++ pick1 3 ws ++ pick1 4 ws ++ pick1 5 ws) (by intro z; cases z) (fun q hq => List.Sublist.subset (show List.Sublist _ _ from (.cons _ (.cons _ (.cons _ (.cons _ .slnil))))) hq) (fun r1 rm r2 => ((((((((((vals_pick r1 0).append (vals_pick r1 1)).append (vals_pick r1 2)).append (vals_pick r1 3)).append (vals_pick r2 0)).append (vals_pick r2 1)).append (vals_pick r2 2)).append (vals_pick r2 3)).append (vals_pick r2 4)).append (vals_pick r2 5)))
    (fun D doc pm an cdv ct us mv ws h1 hm h2 => match us, mv, ws, h1, hm, h2 with | [_, _, _, _], [], [_, _, _, _, _, _], _, _, _ => (show _ = _ by kernel_rfl))
def sp_Grid_init (bc : Kd → Addr) (S U : Addr) (K : PySem.W.Frag) : Sp := fun vs H Q _ => ∃ (x dx p a c d : Addr) (l : List Nat) (ks : List At) (us xs ys : List V) (sp : List (Int × Int × Int × Int)) (ts us' : List Tk) (gap lane : Int) (stands : String) (sv : V), vs = [.ref x, .str (sO l), .ref p, .ref a, .ref c, .ref d, .int gap, .int lane, sX stands, sv] ∧ H x = some (.ins (bc .grid) dx []) ∧ NameOk l ∧
  H p = some (.lst (refs ks)) ∧ ks.length ≤ 1000 ∧ (∀ k ∈ ks, BoxAt bc S K H k) ∧ H a = some (.lst us) ∧ SpsAt H us sp ∧ sp.length = ks.length ∧ stB ts.length us'.length [] (sp.map spO) = true ∧
  H c = some (.lst xs) ∧ TksAt H xs ts ∧ (∀ t ∈ ts, t.ok) ∧ ts ≠ [] ∧ ts.length ≤ 1000 ∧ H d = some (.lst ys) ∧ TksAt H ys us' ∧ (∀ t ∈ us', t.ok) ∧ us' ≠ [] ∧ us'.length ≤ 1000 ∧ 0 ≤ gap ∧ 0 ≤ lane ∧ stands ∈ ["start", "end", "middle", "stretch", "base"] ∧ StyAt K H S U sv ∧
  ∀ H' st, But x H H' → StyIs K H S U sv st → BoxAt bc S K H' (.mk x l st (.grid sp ts us' gap lane stands) ks) → Q .non H'
theorem ok_Grid_init (T : Tx w K mg) : FnOk P w K mg base CX0 7 T.d_Grid_init.f T.d_Grid_init.fd ["self", "name", "boxes", "spots", "columns", "rows", "gap", "lane", "stands", "style"] (sp_Grid_init (bcT T) T.c_Style.C T.U_NO_RIMS K) := by
  refine T.d_Grid_init.F.ok sc_Grid_init (fun vs H Q E h => ?_) (fun cdv A outer s H vs Q E hr h => ?_)
  · obtain ⟨x, dx, p, a, c, d, l, ks, us, xs, ys, sp, ts, us', gap, lane, stands, sv, rfl, _⟩ := h
    rfl
  · obtain ⟨x, dx, p, a, c, d, l, ks, us, xs, ys, sp, ts, us', gap, lane, stands, sv, rfl, hx, hl, hp, lk, hk, ha, hsp, lsp, hst, hc, hts, okt, nt, ltn, hd, hus, oku, nu, lun, g0, l0, ms, hs, k⟩ := h
    refine ⟨_, (pss_cons (ps_fld (pv 0) (pe_call (ok_checked_name T) (hr.mono (by decide)) (by rfl) T.d_checked_name.g T.d_checked_name.F.kp T.d_checked_name.b .nil pass0 (pa_cons (pv 1) pa_nil)) rfl)
      (pss_cons (ps_fld (pv 0) (pe_call (ok_checked_boxes T) (hr.mono (by decide)) (by rfl) T.d_checked_boxes.g T.d_checked_boxes.F.kp T.d_checked_boxes.b .nil pass0 (pa_cons (pv 2) pa_nil)) rfl)
      (pss_cons (ps_if (PW.pt (pw_or (pt_not (pt_val (pe_call (ok_are_tracks T) (hr.mono (by decide)) (by rfl) T.d_are_tracks.g T.d_are_tracks.F.kp T.d_are_tracks.b .nil pass0 (pa_cons (pv 4) pa_nil)))) (pw_or1 (pt_not (pt_val (pe_call (ok_are_tracks T) (hr.mono (by decide)) (by rfl) T.d_are_tracks.g T.d_are_tracks.F.kp T.d_are_tracks.b .nil pass0 (pa_cons (pv 5) pa_nil)))))))
      (pss_one ps_never)
      pss_nil)
      (pss_cons (ps_if (pt_not (pt_val (pe_call (ok_are_spots T) (hr.mono (by decide)) (by rfl) T.d_are_spots.g T.d_are_spots.F.kp T.d_are_spots.b .nil pass0 (pa_cons (pv 3) (pa_cons (pe_callB (call_lenK (K := K) rfl) (by rfl) T.b_len (by decide +kernel) (pa_cons (pv 2) pa_nil)) (pa_cons (pe_callB (call_lenK (K := K) rfl) (by rfl) T.b_len (by decide +kernel) (pa_cons (pv 4) pa_nil)) (pa_cons (pe_callB (call_lenK (K := K) rfl) (by rfl) T.b_len (by decide +kernel) (pa_cons (pv 5) pa_nil)) pa_nil)))))))
      (pss_one ps_never)
      pss_nil)
      (pss_cons (ps_asg (pe_tupA (pa_cons (pe_callTy (call_tupLK (K := K) rfl) (by rfl) T.b_tuple (by decide +kernel) (pa_cons (pv 4) pa_nil)) (pa_cons (pe_callTy (call_tupLK (K := K) rfl) (by rfl) T.b_tuple (by decide +kernel) (pa_cons (pv 5) pa_nil)) pa_nil))) (pg_tup (by rfl) (pgs_cons (pg_fldK (K := K) rfl (pv 0)) (pgs_cons (pg_fldK (K := K) rfl (pv 0)) pgs_nil))))
      (pss_cons (ps_fld (pv 0) (pe_callTy (call_tupLK (K := K) rfl) (by rfl) T.b_tuple (by decide +kernel) (pa_cons (pv 3) pa_nil)) rfl)
      (pss_cons (ps_fld (pv 0) (pe_call (ok_checked_gap T) (hr.mono (by decide)) (by rfl) T.d_checked_gap.g T.d_checked_gap.F.kp T.d_checked_gap.b .nil pass0 (pa_cons (pv 6) pa_nil)) rfl)
      (pss_cons (ps_fld (pv 0) (pe_call (ok_checked_gap T) (hr.mono (by decide)) (by rfl) T.d_checked_gap.g T.d_checked_gap.F.kp T.d_checked_gap.b .nil pass0 (pa_cons (pv 7) pa_nil)) rfl)
      (pss_cons (ps_fld (pv 0) (pe_call (ok_checked_stands T) (hr.mono (by decide)) (by rfl) T.d_checked_stands.g T.d_checked_stands.F.kp T.d_checked_stands.b .nil pass0 (pa_cons (pv 8) pa_nil)) rfl)
      (pss_one (ps_fld (pv 0) (pe_call (ok_checked_style T) (hr.mono (by decide)) (by rfl) T.d_checked_style.g T.d_checked_style.F.kp T.d_checked_style.b .nil pass0 (pa_cons (pv 9) pa_nil)) rfl))))))))))), ?_⟩
    have npx : p ≠ x := by rintro rfl; rw [hx] at hp; cases hp
    have nax : a ≠ x := by rintro rfl; rw [hx] at ha; cases ha
    have ncx : c ≠ x := by rintro rfl; rw [hx] at hc; cases hc
    have ndx : d ≠ x := by rintro rfl; rw [hx] at hd; cases hd
    tm_at "rzs"
    refine fun H1 s1 => ?_
    tm_at "rzs"
    refine ⟨x, _, dx, _, rfl, s1 _ _ hx, T.c_Grid.cls, T.n_Grid_name, Nat.lt_of_succ_le (Nat.le_of_ble_eq_true rfl), ?_⟩
    refine upd_gen fun H2 b2 g2 => ?_
    have B2 : But x H H2 := (Same.but s1).trans b2
    tm_at "rzs"
    refine ⟨p, ks, rfl, B2 _ _ npx hp, lk, fun j m => (hk j m).ks (KeepS.butE B2 hx), fun q H3 s3 f3 g3 => ?_⟩
    have nqx : q ≠ x := by rintro rfl; rw [g2] at f3; cases f3
    tm_at "rzs"
    refine ⟨x, _, dx, _, rfl, s3 _ _ g2, T.c_Grid.cls, T.n_Grid_boxes, Nat.lt_of_succ_le (Nat.le_of_ble_eq_true rfl), ?_⟩
    refine upd_gen fun H4 b4 g4 => ?_
    have B4 : But x H H4 := B2.trans ((Same.but s3).trans b4)
    have K4 := KeepS.butE B4 hx
    tm_at "rzs"
    refine ⟨c, xs, ts, rfl, B4 _ _ ncx hc, K4.tks hts, okt, nt, ltn, fun H5 s5 => ?_⟩
    tm_at "rzs"
    refine ⟨d, ys, us', rfl, s5 _ _ (B4 _ _ ndx hd), (K4.same s5).tks hus, oku, nu, lun, fun H6 s6 => ?_⟩
    have K6 := (K4.same s5).same s6
    have B6 : But x H H6 := B4.trans (Same.but (s5.trans s6))
    tm_at "rzs"
    have a6 := s6 _ _ (s5 _ _ (B4 _ _ nax ha))
    refine ⟨a, us, sp.map spO, ks.length, (xs.length : Int), (ys.length : Int), by rw [show (refs ks).length = ks.length from by unfold refs; rw [List.length_map]]; rfl, a6, sps_ths (K6.sps hsp), by rw [List.length_map]; omega, fun H7 s7 => ?_⟩
    have e : (decide ((sp.map spO).length = ks.length) && stB (xs.length : Int) (ys.length : Int) [] (sp.map spO)) = true := by
      rw [hts.1, hus.1, hst, List.length_map, decide_eq_true lsp]; rfl
    rw [e]
    tm_at "rzs"
    have s47 := (s5.trans s6).trans s7
    have B7 : But x H H7 := B4.trans (Same.but s47)
    have hx7 := s47 _ _ g4
    refine ⟨c, xs, rfl, sqL (B7 _ _ ncx hc), fun p8 H8 f8 s8 g8 => ?_⟩
    tm_at "rzs"
    refine ⟨d, ys, rfl, sqL (s8 _ _ (B7 _ _ ndx hd)), fun p9 H9 f9 s9 g9 => ?_⟩
    tm_at "rzs"
    intro p10 H10 f10 s10 g10
    have s710 := s8.trans (s9.trans s10)
    have h10 := s710 _ _ hx7
    have n8 : p8 ≠ x := by rintro rfl; rw [hx7] at f8; cases f8
    have n9 : p9 ≠ x := by rintro rfl; rw [s8 _ _ hx7] at f9; cases f9
    refine ⟨p10, _, rfl, sqT g10, rfl, ?_⟩
    refine ⟨_, _, rfl, ?_⟩
    refine ⟨_, rfl, x, _, dx, _, rfl, h10, T.c_Grid.cls, T.n_Grid_columns, Nat.lt_of_succ_le (Nat.le_of_ble_eq_true rfl), ?_⟩
    with_reducible refine upd_gen (R := fun Hq => gCons (gFld K (tVar 0) "rows") gNil _ _ Hq _) fun H11 b11 g11 => ?_
    refine ⟨_, _, rfl, ?_⟩
    refine ⟨_, rfl, x, _, dx, _, rfl, g11, T.c_Grid.cls, T.n_Grid_rows, Nat.lt_of_succ_le (Nat.le_of_ble_eq_true rfl), ?_⟩
    with_reducible refine upd_gen (R := fun Hq => gNil _ _ Hq _) fun H12 b12 g12 => ?_
    refine ⟨rfl, ?_⟩
    have B12 : But x H10 H12 := b11.trans b12
    have B12' : But x H H12 := B7.trans ((Same.but s710).trans B12)
    have g8' : H12 p8 = some (.tup xs) := B12.app n8 (s10 _ _ (s9 _ _ g8))
    have g9' : H12 p9 = some (.tup ys) := B12.app n9 (s10 _ _ g9)
    have g3' : H12 q = some (.tup (refs ks)) := B12.app nqx (s710 _ _ (s47 _ _ (b4 _ _ nqx g3)))
    tm_at "rzs"
    refine ⟨a, us, rfl, sqL (B12' _ _ nax ha), fun p13 H13 f13 s13 g13 => ?_⟩
    have n13 : p13 ≠ x := by rintro rfl; rw [g12] at f13; cases f13
    tm_at "rzs"
    refine ⟨x, _, dx, _, rfl, s13 _ _ g12, T.c_Grid.cls, T.n_Grid_spots, Nat.lt_of_succ_le (Nat.le_of_ble_eq_true rfl), ?_⟩
    refine upd_gen fun H14 b14 g14 => ?_
    tm_at "rzs"
    refine ⟨x, _, dx, _, rfl, g14, T.c_Grid.cls, T.n_Grid_gap, Nat.lt_of_succ_le (Nat.le_of_ble_eq_true rfl), ?_⟩
    refine upd_gen fun H15 b15 g15 => ?_
    tm_at "rzs"
    refine ⟨x, _, dx, _, rfl, g15, T.c_Grid.cls, T.n_Grid_lane, Nat.lt_of_succ_le (Nat.le_of_ble_eq_true rfl), ?_⟩
    refine upd_gen fun H16 b16 g16 => ?_
    tm_at "rzs"
    refine ⟨x, _, dx, _, rfl, g16, T.c_Grid.cls, T.n_Grid_stands, Nat.lt_of_succ_le (Nat.le_of_ble_eq_true rfl), ?_⟩
    refine upd_gen fun H17 b17 g17 => ?_
    have B17 : But x H13 H17 := b14.trans (b15.trans (b16.trans b17))
    have B17' : But x H H17 := B12'.trans ((Same.but s13).trans B17)
    tm_at "rzs"
    refine sty_step hs T.t_NO_RIMS (KeepS.butE B17' hx) fun y dy st H18 s18 si gy ls ok => ?_
    tm_at "rzs"
    refine ⟨x, _, dx, _, rfl, s18 _ _ g17, T.c_Grid.cls, T.n_Grid_style, Nat.lt_of_succ_le (Nat.le_of_ble_eq_true rfl), ?_⟩
    refine upd_gen fun H19 b19 g19 => ?_
    have ny := sty_ne gy ls (s18 _ _ g17) (show 8 ≠ 10 by decide)
    have B19 : But x H H19 := B17'.trans ((Same.but s18).trans b19)
    have K19 := KeepS.butE B19 hx
    have c19 : ∀ b o, b ≠ x → H12 b = some o → H19 b = some o := fun b o n e => b19 _ _ n (s18 _ _ (B17 _ _ n (s13 _ _ e)))
    exact k H19 st B19 si (.grid g19 (b19 _ _ ny gy) (ok _ K19) hl g0 l0 (c19 _ _ nqx g3') lk (fun j m => (hk j m).ks K19) (c19 _ _ n8 g8') (K19.tks hts) okt nt (c19 _ _ n9 g9') (K19.tks hus) oku nu (b19 _ _ n13 (s18 _ _ (B17 _ _ n13 g13))) (K19.sps hsp) lsp ltn lun)
end
end My
namespace My
open PySem PySem.Spec PyProof.Rows L2
section
variable {P : Program} {w : World} {K : PySem.W.Frag} {mg : Str → Option Value} {base : Heap}
theorem ok_Grid_held_boxes (T : Tx w K mg) : FnOk P w K mg base CX0 1 T.d_Grid_held_boxes.f T.d_Grid_held_boxes.fd ["self"] (sp_held (bcT T) T.c_Style.C K .grid) := by
  refine T.d_Grid_held_boxes.F.ok sc_Grid_held_boxes (fun vs H Q E h => ?_) (fun cdv A outer s H vs Q E hr h => ?_)
  · obtain ⟨_, rfl, _⟩ := h
    rfl
  · obtain ⟨t, rfl, hb, hk, k⟩ := h
    refine ⟨_, (pss_one (ps_ret (pe_fldK (K := K) rfl (pv 0) rfl))), ?_⟩
    tm_at "rzs"
    cases hb with
    | words => cases hk
    | picture => cases hk
    | row => cases hk
    | pile => cases hk
    | grid hx hy ok hn g0 l0 hb lk hk hc tc oc nc hr tr or nr hs ts lsp lcs lrs =>
      refine ⟨_, _, _, _, _, rfl, hx, T.c_Grid.cls, T.n_Grid_boxes, rfl, ?_⟩
      exact k _ H (Same.refl _) hb
theorem poly_held_boxes (T : Tx w K mg) (kd : Kd) : HeldM P w K mg base 1 (bcT T kd) "held_boxes" (sp_held (bcT T) T.c_Style.C K kd) := by
  cases kd with
  | words => exact ⟨_, _, _, T.c_Words.cls, ⟨T.mh_Words, T.d_Box_held_boxes.n, T.d_Box_held_boxes.F.kp⟩, (ok_Box_held_boxes T).imp (fun _ _ _ _ ⟨t, e, b, k, q⟩ => ⟨t, e, b, .inl k, q⟩), T.d_Box_held_boxes.b⟩
  | picture => exact ⟨_, _, _, T.c_Picture.cls, ⟨T.mh_Picture, T.d_Box_held_boxes.n, T.d_Box_held_boxes.F.kp⟩, (ok_Box_held_boxes T).imp (fun _ _ _ _ ⟨t, e, b, k, q⟩ => ⟨t, e, b, .inr k, q⟩), T.d_Box_held_boxes.b⟩
  | row => exact ⟨_, _, _, T.c_Row.cls, T.d_Row_held_boxes.meth, ok_Row_held_boxes T, T.d_Row_held_boxes.b⟩
  | pile => exact ⟨_, _, _, T.c_Pile.cls, T.d_Pile_held_boxes.meth, ok_Pile_held_boxes T, T.d_Pile_held_boxes.b⟩
  | grid => exact ⟨_, _, _, T.c_Grid.cls, T.d_Grid_held_boxes.meth, ok_Grid_held_boxes T, T.d_Grid_held_boxes.b⟩
end
end My
namespace My
open PySem PySem.Spec PyProof.Rows L2
section
variable {P : Program} {w : World} {K : PySem.W.Frag} {mg : Str → Option Value} {base : Heap}
def sp_add_boxes (bc : Kd → Addr) (S : Addr) (K : PySem.W.Frag) : Nat → Sp
  | 0 => fun _ _ _ _ => False
  | n + 1 => fun vs H Q _ => ∃ (t : At) (h : V) (f : Addr) (acc : List V), vs = [.ref t.x, h, .ref f] ∧ BoxAt bc S K H t ∧ t.depth ≤ n ∧ H f = some (.lst acc) ∧ acc.length + (t.pre h).length ≤ 10000 ∧
    ∀ H' us, KeepS H H' → (∀ b o, b ≠ f → H b = some o → H' b = some o) → H' f = some (.lst (acc ++ us)) → PrsAt H' us (t.pre h) → Q .non H'
theorem okr_add_boxes (T : Tx w K mg) : ∀ n : Nat, FnOk P w K mg base CX0 (n + 2) T.d_add_boxes.f T.d_add_boxes.fd ["box", "holder", "found"] (sp_add_boxes (bcT T) T.c_Style.C K n)
  | 0 => (show FnOk P w K mg base CX0 2 _ _ _ _ from T.d_add_boxes.F.ok (k := 1) (sp := fun _ _ _ _ => False) sc_add_boxes (fun vs H Q E h => h.elim) (fun cdv A outer s H vs Q E hr h => h.elim))
  | n + 1 => by
    have ih := okr_add_boxes T n
    refine T.d_add_boxes.F.ok (k := n + 2) sc_add_boxes (fun vs H Q E h => ?_) (fun cdv A outer s H vs Q E hr h => ?_)
    · obtain ⟨t, h, f, acc, rfl, _⟩ := h
      rfl
    · obtain ⟨t, hv, f, acc, rfl, hb, hd, hf, hl, k⟩ := h
      refine ⟨_, (pss_cons (ps_expr (pe_bm PySem.F.plainAttrs_list PySem.F.slot_list_append PySem.F.type_list_append mt_appendA (pv 2) (pa_cons (pe_tupA (pa_cons (pv 0) (pa_cons (pv 1) pa_nil))) pa_nil)))
      (pss_one (ps_for PassesOwn.never (by rfl) (pi_tupK (K := K) rfl (pe_methK (pv 0) (poly_held_boxes T) (hr.mono (by omega)))) (pg_name (i := 3) sc_add_boxes.nd rfl (Or.inl rfl))
      (pss_one (ps_expr (pe_call ih (hr.mono (Nat.le_refl _)) (by rfl) T.d_add_boxes.g T.d_add_boxes.F.kp T.d_add_boxes.b .nil pass0 (pa_cons (pv 3) (pa_cons (pe_fldK (K := K) rfl (pv 0) rfl) (pa_cons (pv 2) pa_nil))))))))), ?_⟩
      tm_at "rzs"
      intro p1 H1 f1 s1 g1
      refine ⟨f, acc, _, rfl, rfl, s1 _ _ hf, by rw [sizeLine_eq]; omega, fun H2 b2 g2 => ?_⟩
      have K2 : KeepS H H2 := (Same.ks s1).butL b2 (s1 _ _ hf)
      have nf1 : p1 ≠ f := by rintro rfl; rw [hf] at f1; cases f1
      have g12 : H2 p1 = some (.tup [.ref t.x, hv]) := b2 _ _ nf1 g1
      obtain ⟨dx, y, dy, fs, hx, ln, ls, hy, lh, hn, ok⟩ := (hb.ks K2).ob
      tm_at "rzs"
      refine ⟨t.x, t.own.kd, dx, fs, rfl, hx, lh, t, rfl, hb.ks K2, rfl, fun b H3 s3 g3 => ?_⟩
      have K3 : KeepS H H3 := K2.same s3
      have tot := hl
      rw [t.pre_eq, List.length_cons] at tot
      have g23 := s3 _ _ g2
      refine ⟨b, rfl, ⟨_, sqT g3⟩, for_tup (K := K) (a := b) (xs := refs t.kids) (fun i σ H' => ∃ (us : List V) (v3 : Option V), σ = [some (.ref t.x), some hv, some (.ref f), v3] ∧ KeepS H3 H' ∧ (∀ b o, b ≠ f → H3 b = some o → H' b = some o) ∧ H' f = some (.lst (acc ++ [.ref p1] ++ us)) ∧ PrsAt H' us (preL (t.kids.take i) (.str (sO t.nm)))) ⟨[], _, rfl, KeepS.refl, fun _ _ _ e => e, by rw [List.append_nil]; exact g23, PrsAt.nil⟩ (fun i σ H' _ ⟨_, _, _, kk, _⟩ => sqT (kk.tup g3)) ?_ ?_⟩
      · rintro i v σ H4 hv' ⟨us, v3, rfl, kk, bb, gf, pu⟩
        obtain ⟨j, mj, rfl⟩ := of_map hv'
        have K4 := K3.trans kk
        obtain ⟨dx', y', dy', fs', hx', ln', _⟩ := (hb.ks K4).ob
        have hj := hb.kid j (List.mem_of_getElem? mj)
        have dj := depth_kid (List.mem_of_getElem? mj)
        have hd' := hd
        rw [t.depth_eq] at hd'
        dsimp only [gName]
        tm_at "rzs"
        refine ⟨_, _, _, _, _, rfl, hx', (kdT T).cl _, (kdT T).nm _, ln', ?_⟩
        tm_at "rzs"
        have lu := pu.1
        have le := preL_le t.kids (i + 1) (.str (sO t.nm))
        rw [preL_snoc mj, List.length_append] at le
        have jd := j.depth_eq
        cases n with
        | zero => exact absurd hd' (by omega)
        | succ m =>
        tm_at "rzs"
        refine ⟨j, .str (sO t.nm), f, _, rfl, hj.ks K4, by omega, gf, by rw [List.length_append, List.length_append]; show acc.length + 1 + us.length + _ ≤ _; omega, fun H5 ws k5 b5 g5 p5 => ?_⟩
        tm_at "rzs"
        exact ⟨us ++ ws, _, rfl, kk.trans k5, fun b' o nb e => b5 _ _ nb (bb _ _ nb e), by rw [g5, List.append_assoc], by rw [preL_snoc mj]; exact (pu.ks k5).app p5⟩
      · rintro σ H4 ⟨us, v3, rfl, kk, bb, gf, pu⟩
        refine k H4 ([.ref p1] ++ us) (K3.trans kk) (fun b' o nb e => bb _ _ nb (s3 _ _ (b2 _ _ nb (s1 _ _ e)))) (by rw [gf, List.append_assoc]) ?_
        rw [t.pre_eq]
        have hl2 : t.kids.take (refs t.kids).length = t.kids := by unfold refs; rw [List.length_map, List.take_length]
        rw [hl2] at pu
        exact (PrsAt.one (e := (t.x, t.nm, hv)) (kk.tup (s3 _ _ g12))).app pu
theorem ok_add_boxes (T : Tx w K mg) : FnOk P w K mg base CX0 22 T.d_add_boxes.f T.d_add_boxes.fd ["box", "holder", "found"] (sp_add_boxes (bcT T) T.c_Style.C K 20) := okr_add_boxes T 20
end
end My
namespace My
open PySem PySem.Spec PyProof.Rows L2
section
variable {P : Program} {w : World} {K : PySem.W.Frag} {mg : Str → Option Value} {base : Heap}
def sp_told_sizes (bc : Kd → Addr) (S : Addr) (K : PySem.W.Frag) : Sp := fun vs H Q _ => ∃ t : At, vs = [.ref t.x] ∧ BoxAt bc S K H t ∧ ∀ p H', Same H H' → H' p = some (.tup [t.st.getD 0 .non, t.st.getD 1 .non]) → Q (.ref p) H'
theorem ok_told_sizes (T : Tx w K mg) : FnOk P w K mg base CX0 1 T.d_told_sizes.f T.d_told_sizes.fd ["box"] (sp_told_sizes (bcT T) T.c_Style.C K) := by
  refine T.d_told_sizes.F.ok sc_told_sizes (fun vs H Q E h => ?_) (fun cdv A outer s H vs Q E hr h => ?_)
  · obtain ⟨t, rfl, _⟩ := h
    rfl
  · obtain ⟨t, rfl, hb, k⟩ := h
    refine ⟨_, (pss_one (ps_ret (pe_tupA (pa_cons (pe_fldK (K := K) rfl (pe_fldK (K := K) rfl (pv 0) rfl) rfl) (pa_cons (pe_fldK (K := K) rfl (pe_fldK (K := K) rfl (pv 0) rfl) rfl) pa_nil))))), ?_⟩
    obtain ⟨dx, y, dy, fs, hx, ln, ls, hy, _, hn, ok⟩ := hb.ob
    obtain ⟨w, h', lw, lh, mw, mh, g, s', r, q, e⟩ := ten ok.1
    rw [e] at hy k
    tm_at "rzs"
    refine ⟨_, _, _, _, _, rfl, hx, (kdT T).cl _, (kdT T).sy _, ls, ?_⟩
    tm_at "rzs"
    refine ⟨_, _, _, _, _, rfl, hy, T.c_Style.cls, T.n_Style_wide, rfl, ?_⟩
    tm_at "rzs"
    refine ⟨_, _, _, _, _, rfl, hx, (kdT T).cl _, (kdT T).sy _, ls, ?_⟩
    tm_at "rzs"
    refine ⟨_, _, _, _, _, rfl, hy, T.c_Style.cls, T.n_Style_high, rfl, ?_⟩
    tm_at "rzs"
    intro p H1 f1 s1 g1
    exact k p H1 s1 g1
end
end My
namespace My
open PySem PySem.Spec PyProof.Rows L2
section
variable {P : Program} {w : World} {K : PySem.W.Frag} {mg : Str → Option Value} {base : Heap}
/-- a Nest, its order in the list at o -/
def NestO (C : Addr) (H : Hp) (x o : Addr) (t : At) : Prop := ∃ (dx d1 d2 : Addr), H x = some (.ins C dx [("order", .ref o), ("box_by", .ref d1), ("holder_by", .ref d2)]) ∧ H o = some (.lst (nms (t.pre .non))) ∧ H d1 = some (.dK (bxs (t.pre .non))) ∧ H d2 = some (.dK (hds (t.pre .non)))
theorem NestO.at {C : Addr} {H : Hp} {x o : Addr} {t : At} (h : NestO C H x o t) : NestAt C H x t := let ⟨a, b, c, d⟩ := h; ⟨a, o, b, c, d⟩
def sp_Nest_init (bc : Kd → Addr) (S C : Addr) (K : PySem.W.Frag) : Sp := fun vs H Q _ => ∃ (x dx : Addr) (t : At), vs = [.ref x, .ref t.x] ∧ H x = some (.ins C dx []) ∧ BoxAt bc S K H t ∧ t.depth ≤ 19 ∧ (t.pre .non).length ≤ 5000 ∧ TreeOk H t ∧
  ∀ (o : Addr) H', But x H H' → NestO C H' x o t → H o = none → Q .non H'
theorem ok_Nest_init (T : Tx w K mg) : FnOk P w K mg base CX0 23 T.d_Nest_init.f T.d_Nest_init.fd ["self", "tree"] (sp_Nest_init (bcT T) T.c_Style.C T.c_Nest.C K) := by
  refine T.d_Nest_init.F.ok sc_Nest_init (fun vs H Q E h => ?_) (fun cdv A outer s H vs Q E hr h => ?_)
  · obtain ⟨x, dx, t, rfl, _⟩ := h
    rfl
  · obtain ⟨x, dx, t, rfl, hx, hb, hd, hl, hok, k⟩ := h
    refine ⟨_, (pss_cons (ps_if (pt_not (pt_val (pe_callB (call_isiK (K := K) rfl) (by rfl) T.b_isinstance (by decide +kernel) (pa_cons (pv 1) (pa_cons (pe_glob (v := .ref T.c_Box.C) (by rfl) T.c_Box.g rfl) pa_nil)))))
      (pss_one ps_never)
      pss_nil)
      (pss_cons (ps_set (i := 2) sc_Nest_init.nd rfl (Or.inl rfl) (pe_lstA pa_nil))
      (pss_cons (ps_expr (pe_call (ok_add_boxes T) (hr.mono (by decide)) (by rfl) T.d_add_boxes.g T.d_add_boxes.F.kp T.d_add_boxes.b .nil pass0 (pa_cons (pv 1) (pa_cons pe_non (pa_cons (pv 2) pa_nil)))))
      (pss_cons (ps_fld (pv 0) (pe_lc (own := [("box", 3), ("holder", 4)]) (g := gTup K 2 (gCons (gName 3) (gCons (gName 4) gNil))) (by rfl) sc_Nest_init.nd (pi_listK (K := K) rfl (pv 2)) (blkOk_by (own := [("box", 3), ("holder", 4)]) (N := N_Nest_init) (sc := defScope s_Nest_init) (by decide +kernel)) (fun _ _ _ _ _ => (pg_tup (by rfl) (pgs_cons (pg_name (i := 3) sc_Nest_init.nd rfl (Or.inl rfl)) (pgs_cons (pg_name (i := 4) sc_Nest_init.nd rfl (Or.inl rfl)) pgs_nil)))) (fun _ _ _ _ _ => pts_nil) (fun _ _ _ _ _ => (pe_fldK (K := K) rfl (pv 3) rfl))) rfl)
      (pss_cons (ps_fld (pv 0) (pe_dc (own := [("box", 3), ("holder", 4)]) (g := gTup K 2 (gCons (gName 3) (gCons (gName 4) gNil))) (by rfl) sc_Nest_init.nd (pi_listK (K := K) rfl (pv 2)) (blkOk_by (own := [("box", 3), ("holder", 4)]) (N := N_Nest_init) (sc := defScope s_Nest_init) (by decide +kernel)) (fun _ _ _ _ _ => (pg_tup (by rfl) (pgs_cons (pg_name (i := 3) sc_Nest_init.nd rfl (Or.inl rfl)) (pgs_cons (pg_name (i := 4) sc_Nest_init.nd rfl (Or.inl rfl)) pgs_nil)))) (fun _ _ _ _ _ => pts_nil) (fun _ _ _ _ _ => (pe_fldK (K := K) rfl (pv 3) rfl)) (fun _ _ _ _ _ => (pv 3))) rfl)
      (pss_cons (ps_fld (pv 0) (pe_dc (own := [("box", 3), ("holder", 4)]) (g := gTup K 2 (gCons (gName 3) (gCons (gName 4) gNil))) (by rfl) sc_Nest_init.nd (pi_listK (K := K) rfl (pv 2)) (blkOk_by (own := [("box", 3), ("holder", 4)]) (N := N_Nest_init) (sc := defScope s_Nest_init) (by decide +kernel)) (fun _ _ _ _ _ => (pg_tup (by rfl) (pgs_cons (pg_name (i := 3) sc_Nest_init.nd rfl (Or.inl rfl)) (pgs_cons (pg_name (i := 4) sc_Nest_init.nd rfl (Or.inl rfl)) pgs_nil)))) (fun _ _ _ _ _ => pts_nil) (fun _ _ _ _ _ => (pe_fldK (K := K) rfl (pv 3) rfl)) (fun _ _ _ _ _ => (pv 4))) rfl)
      (pss_cons (ps_if (pt_cmpR op_lt (pe_callB call_lenD (by rfl) T.b_len (by decide +kernel) (pa_cons (pe_fldK (K := K) rfl (pv 0) rfl) pa_nil)) (pe_callB (call_lenK (K := K) rfl) (by rfl) T.b_len (by decide +kernel) (pa_cons (pv 2) pa_nil)) (nomark _))
      (pss_one ps_never)
      pss_nil)
      (pss_cons (ps_for PassesOwn.never (by rfl) (pi_listK (K := K) rfl (pv 2)) (pg_tup (by rfl) (pgs_cons (pg_name (i := 3) sc_Nest_init.nd rfl (Or.inl rfl)) (pgs_cons (pg_name (i := 4) sc_Nest_init.nd rfl (Or.inl rfl)) pgs_nil)))
      (pss_one (ps_for PassesOwn.never (by rfl) (pi_tupK (K := K) rfl (pe_call (ok_told_sizes T) (hr.mono (by decide)) (by rfl) T.d_told_sizes.g T.d_told_sizes.F.kp T.d_told_sizes.b .nil pass0 (pa_cons (pv 3) pa_nil))) (pg_name (i := 5) sc_Nest_init.nd rfl (Or.inl rfl))
      (pss_one (ps_if (PW.pt (pw_and (pt_val (pe_call (ok_is_tie T) (hr.mono (by decide)) (by rfl) T.d_is_tie.g T.d_is_tie.F.kp T.d_is_tie.b .nil pass0 (pa_cons (pv 5) pa_nil))) (pw_and1 (pt_cmp (pc_dnotin (hu_of hr) (pe_ix (ix_tupK (K := K) rfl) (pv 5) pe_int (fun _ _ => rfl)) (pe_fldK (K := K) rfl (pv 0) rfl))))))
      (pss_one ps_never)
      pss_nil)))))
      (pss_one (ps_if (pt_val (pe_callB (cr_anyK (K := K) rfl rfl) (by rfl) T.b_any (by decide +kernel) (pa_cons (pe_lc (own := [("size", 5)]) (g := gName 5) (by rfl) sc_Nest_init.nd (pi_tupK (K := K) rfl (pe_call (ok_told_sizes T) (hr.mono (by decide)) (by rfl) T.d_told_sizes.g T.d_told_sizes.F.kp T.d_told_sizes.b .nil pass0 (pa_cons (pv 1) pa_nil))) (blkOk_by (own := [("size", 5)]) (N := N_Nest_init) (sc := defScope s_Nest_init) (by decide +kernel)) (fun _ _ _ _ _ => (pg_name (i := 5) sc_Nest_init.nd rfl (Or.inl rfl))) (fun _ _ _ _ _ => pts_nil) (fun _ _ _ _ _ => (pe_call (ok_is_part T) (hr.mono (by decide)) (by rfl) T.d_is_part.g T.d_is_part.F.kp T.d_is_part.b .nil pass0 (pa_cons (pv 5) pa_nil)))) pa_nil)))
      (pss_one ps_never)
      pss_nil)))))))))), ?_⟩
    tm_at "rzs"
    refine ⟨_, _, _, _, true, rfl, .own _, hb.tyx (kdT T), (kdT T).box _, ?_⟩
    tm_at "rzs"
    intro f H1 f1 s1 g1
    have nfx : f ≠ x := ne_of_none hx f1 |>.symm
    dsimp only [gName]
    tm_at "rzs"
    refine ⟨t, .non, f, [], rfl, hb.ks (Same.ks s1), hd, g1, by show 0 + _ ≤ _; omega, fun H2 us k2 b2 g2 p2 => ?_⟩
    have K2 : KeepS H H2 := (Same.ks s1).trans k2
    have hx2 := b2 _ _ nfx.symm (s1 _ _ hx)
    rw [List.nil_append] at g2
    dsimp only [gName]
    tm_at "rzs"
    generalize hes : t.pre .non = es at *
    have lus : us.length = es.length := p2.1
    have hbx : ∀ H', KeepS H H' → ∀ e ∈ es, ∃ b : At, BoxAt (bcT T) T.c_Style.C K H' b ∧ b.x = e.1 ∧ b.nm = e.2.1 ∧ b ∈ t.all := fun H' kk e m => by
      rw [← hes] at m
      exact pre_box (hb.ks kk) .non e m
    refine ⟨⟨_, sqL g2⟩, fun D hD => lcLx (K := K) (xs := us) (fun i => (nms es).getD i .non) hD (sqL g2) (by omega) (fun i v H3 Kt Kf hv s3 kt => ?_) (fun H3 s3 g3 => ?_)⟩
    · obtain ⟨e, he⟩ : ∃ e, es[i]? = some e := ⟨_, List.getElem?_eq_getElem (by rw [← lus]; exact (List.getElem?_eq_some_iff.mp hv).1)⟩
      obtain ⟨p, rfl, gp⟩ := p2.2 i v e hv he
      obtain ⟨b, hb3, e1, e2, _⟩ := hbx H3 (K2.same s3) e (List.mem_of_getElem? he)
      obtain ⟨dx', y', dy', fs', hx', ln', _⟩ := hb3.ob
      rw [e1] at hx'
      rw [e2] at ln'
      refine ⟨p, _, rfl, sqT (s3 _ _ gp), rfl, ?_⟩
      tm_at "rzs"
      refine ⟨_, _, _, _, _, rfl, hx', (kdT T).cl _, (kdT T).nm _, ln', ?_⟩
      rw [nms_at he] at kt
      exact kt _ (Same.refl _)
    rw [range_nms es lus] at g3
    tm_at "rzs"
    refine ⟨x, _, dx, _, rfl, s3 _ _ hx2, T.c_Nest.cls, T.n_Nest_order, Nat.lt_of_succ_le (Nat.le_of_ble_eq_true rfl), ?_⟩
    refine upd_gen fun H4 b4 g4 => ?_
    tm_at "rzs"
    have nd := hok.nd
    rw [hes] at nd
    have K4 : KeepS H H4 := (K2.same s3).butX b4 hx
    have gf4 : H4 f = some (.lst us) := b4 _ _ nfx (s3 _ _ g2)
    have p4 : PrsAt H4 us es := (p2.ks (Same.ks s3)).ks (KeepS.butE b4 (s3 _ _ hx2))
    have gD4 : H4 D = some (.lst (nms es)) := b4 _ _ (ne_of_none hx2 hD |>.symm) g3
    refine ⟨⟨_, sqL gf4⟩, fun D1 hD1 => dcL (K := K) (xs := us) (fun i H' => Same H4 H' ∧ H' D1 = some (.dK (bxs (es.take i)))) ⟨Same.upd0 hD1, upd_same⟩ (fun i H' _ p => sqL (p.1 _ _ gf4)) (fun i v H' hv p => ?_) (fun H5 p5 => ?_)⟩
    · obtain ⟨s5, g5⟩ := p
      obtain ⟨e, he⟩ : ∃ e, es[i]? = some e := ⟨_, List.getElem?_eq_getElem (by rw [← lus]; exact (List.getElem?_eq_some_iff.mp hv).1)⟩
      obtain ⟨p, rfl, gp⟩ := p4.2 i v e hv he
      obtain ⟨b, hb3, e1, e2, _⟩ := hbx H' (K4.same s5) e (List.mem_of_getElem? he)
      obtain ⟨dx', y', dy', fs', hx', ln', _⟩ := hb3.ob
      rw [e1] at hx'
      rw [e2] at ln'
      refine ⟨p, _, rfl, sqT (s5 _ _ gp), rfl, ?_⟩
      tm_at "rzs"
      refine ⟨_, _, _, _, _, rfl, hx', (kdT T).cl _, (kdT T).nm _, ln', ?_⟩
      tm_at "rzs"
      refine ⟨_, keyS e.2.1, rfl, g5, by unfold bxs; rw [List.length_map, List.length_take, sizeLine_eq]; omega, Same.mut s5 hD1, ?_⟩
      rw [upd_same]
      unfold bxs
      rw [put_take (f := fun e => .ref e.1) nd he]
    obtain ⟨s5, g5⟩ := p5
    rw [lus, List.take_length] at g5
    tm_at "rzs"
    refine ⟨x, _, dx, _, rfl, s5 _ _ g4, T.c_Nest.cls, T.n_Nest_box_by, Nat.lt_of_succ_le (Nat.le_of_ble_eq_true rfl), ?_⟩
    refine upd_gen fun H6 b6 g6 => ?_
    have K6 : KeepS H H6 := (K4.same s5).butX b6 hx
    have gf6 : H6 f = some (.lst us) := b6 _ _ nfx (s5 _ _ gf4)
    have gD6 : H6 D = some (.lst (nms es)) := b6 _ _ (ne_of_none hx2 hD |>.symm) (s5 _ _ gD4)
    have n1x : D1 ≠ x := (ne_of_none g4 hD1).symm
    have g16 : H6 D1 = some (.dK (bxs es)) := b6 _ _ n1x g5
    have p6 : PrsAt H6 us es := ⟨lus, fun i v e a b => by
      obtain ⟨p, q, g⟩ := p4.2 i v e a b
      exact ⟨p, q, b6 _ _ (by rintro rfl; rw [g4] at g; cases g) (s5 _ _ g)⟩⟩
    tm_at "rzs"
    refine ⟨⟨_, sqL gf6⟩, fun D2 hD2 => dcL (K := K) (xs := us) (fun i H' => Same H6 H' ∧ H' D2 = some (.dK (hds (es.take i)))) ⟨Same.upd0 hD2, upd_same⟩ (fun i H' _ p => sqL (p.1 _ _ gf6)) (fun i v H' hv p => ?_) (fun H7 p7 => ?_)⟩
    · obtain ⟨s7, g7⟩ := p
      obtain ⟨e, he⟩ : ∃ e, es[i]? = some e := ⟨_, List.getElem?_eq_getElem (by rw [← lus]; exact (List.getElem?_eq_some_iff.mp hv).1)⟩
      obtain ⟨p, rfl, gp⟩ := p6.2 i v e hv he
      obtain ⟨b, hb3, e1, e2, _⟩ := hbx H' (K6.same s7) e (List.mem_of_getElem? he)
      obtain ⟨dx', y', dy', fs', hx', ln', _⟩ := hb3.ob
      rw [e1] at hx'
      rw [e2] at ln'
      refine ⟨p, _, rfl, sqT (s7 _ _ gp), rfl, ?_⟩
      tm_at "rzs"
      refine ⟨_, _, _, _, _, rfl, hx', (kdT T).cl _, (kdT T).nm _, ln', ?_⟩
      tm_at "rzs"
      refine ⟨_, keyS e.2.1, rfl, g7, by unfold hds; rw [List.length_map, List.length_take, sizeLine_eq]; omega, Same.mut s7 hD2, ?_⟩
      rw [upd_same]
      unfold hds
      rw [put_take (f := fun e => e.2.2) nd he]
    obtain ⟨s7, g7⟩ := p7
    rw [lus, List.take_length] at g7
    tm_at "rzs"
    refine ⟨x, _, dx, _, rfl, s7 _ _ g6, T.c_Nest.cls, T.n_Nest_holder_by, Nat.lt_of_succ_le (Nat.le_of_ble_eq_true rfl), ?_⟩
    refine upd_gen fun H8 b8 g8 => ?_
    have K8 : KeepS H H8 := (K6.same s7).butX b8 hx
    have gf8 : H8 f = some (.lst us) := b8 _ _ nfx (s7 _ _ gf6)
    have gD8 : H8 D = some (.lst (nms es)) := b8 _ _ (ne_of_none hx2 hD |>.symm) (s7 _ _ gD6)
    have n2x : D2 ≠ x := (ne_of_none g6 hD2).symm
    have g18 : H8 D1 = some (.dK (bxs es)) := b8 _ _ n1x (s7 _ _ g16)
    have g28 : H8 D2 = some (.dK (hds es)) := b8 _ _ n2x g7
    have p8 : PrsAt H8 us es := ⟨lus, fun i v e a b => by
      obtain ⟨p, q, g⟩ := p6.2 i v e a b
      exact ⟨p, q, b8 _ _ (by rintro rfl; rw [g6] at g; cases g) (s7 _ _ g)⟩⟩
    tm_at "rzs"
    refine ⟨_, _, _, _, _, rfl, g8, T.c_Nest.cls, T.n_Nest_box_by, rfl, ?_⟩
    tm_at "rzs"
    refine iteF' (decide_eq_false (by unfold bxs; rw [List.length_map]; omega)) ?_
    have big : us.length ≤ 100000 := by omega
    refine seq_key (M := fun σ H' => ∃ v3 v4 v5 : Option V, σ = [some (.ref x), some (.ref t.x), some (.ref f), v3, v4, v5] ∧ H' = H8) ?_ (fun NN hNN => ?_)
    rotate_left
    · exact hNN _ _ ⟨_, _, _, rfl, rfl⟩
    rintro σ H8 ⟨v3, v4, v5, rfl, rfl⟩
    refine seq_key (M := fun σ H' => ∃ v3 v4 v5 : Option V, σ = [some (.ref x), some (.ref t.x), some (.ref f), v3, v4, v5] ∧ Same H8 H') ?_ (fun NN hNN => ?_)
    rotate_left
    · tm_at "rzs"
      refine ⟨⟨_, sqL gf8⟩, for_list (K := K) (a := f) (xs := us) (fun i σ H' => ∃ v3 v4 v5 : Option V, σ = [some (.ref x), some (.ref t.x), some (.ref f), v3, v4, v5] ∧ Same H8 H') ⟨_, _, _, rfl, Same.refl _⟩ (fun i σ H' _ ⟨_, _, _, _, s⟩ => sqL (s _ _ gf8)) ?_ ?_⟩
      · rintro i v σ H9 hv ⟨v3, v4, v5, rfl, s9⟩
        obtain ⟨e, he⟩ : ∃ e, es[i]? = some e := ⟨_, List.getElem?_eq_getElem (by rw [← lus]; exact (List.getElem?_eq_some_iff.mp hv).1)⟩
        obtain ⟨p, rfl, gp⟩ := p8.2 i v e hv he
        refine ⟨p, _, rfl, sqT (s9 _ _ gp), rfl, ?_⟩
        obtain ⟨b, hbH, e1, e2, mb⟩ := hbx H KeepS.refl e (List.mem_of_getElem? he)
        have hb9 := hbH.ks (K8.same s9)
        tm_at "rzs"
        refine ⟨b, by rw [e1]; rfl, hb9, fun q H10 s10 g10 => ?_⟩
        have s810 := s9.trans s10
        obtain ⟨_, _, _, _, _, _, _, _, _, _, okb⟩ := hbH.ob
        obtain ⟨T0, T1⟩ := hok.ties b mb
        rw [hes] at T0 T1
        refine ⟨q, rfl, ⟨_, sqT g10⟩, for_tup (K := K) (a := q) (xs := [b.st.getD 0 .non, b.st.getD 1 .non]) (fun j σ H' => ∃ v5 : Option V, σ = [some (.ref x), some (.ref t.x), some (.ref f), some (.ref e.1), some e.2.2, v5] ∧ Same H10 H') ⟨_, rfl, Same.refl _⟩ (fun j σ H' _ ⟨_, _, sp⟩ => sqT (sp _ _ g10)) ?_ ?_⟩
        · rintro j z σ H11 hz ⟨v5, rfl, s11⟩
          obtain ⟨hsz, htie⟩ : SzAt H z ∧ TieOk (es.map (·.2.1)) H z := by
            obtain ⟨w0, w1, w2, w3, w4, w5, w6, w7, w8, w9, eb⟩ := ten okb.1
            rw [eb] at hz T0 T1 okb
            match j, hz with
            | 0, hz => cases hz; exact ⟨okb.2 0 _ rfl, T0⟩
            | 1, hz => cases hz; exact ⟨okb.2 1 _ rfl, T1⟩
            | n + 2, hz => cases hz
          have K11 : KeepS H H11 := K8.same (s810.trans s11)
          have g811 := s11 _ _ (s810 _ _ g8)
          have g111 := s11 _ _ (s810 _ _ g18)
          cases hsz with
          | non =>
            dsimp only [gName]
            tm_at "rds"
            refine .inl ⟨_, .non, by decide, ?_⟩
            tm_at "rzs"
            exact s11
          | cells n =>
            dsimp only [gName]
            tm_at "rds"
            refine .inl ⟨_, .int _, by decide, ?_⟩
            tm_at "rzs"
            exact s11
          | part a n h =>
            dsimp only [gName]
            tm_at "rds"
            refine .inr ⟨a, _, rfl, K11.tup h, ?_⟩
            tm_at "rzs"
            exact s11
          | tie a l sd m hl hs h =>
            have ha11 := K11.tup h
            dsimp only [gName]
            tm_at "rds"
            refine .inr ⟨a, _, rfl, ha11, ?_⟩
            tm_at "rzs"
            refine ⟨_, _, _, _, _, rfl, g811, T.c_Nest.cls, T.n_Nest_box_by, rfl, ?_⟩
            obtain ⟨e', me', el⟩ := List.mem_map.mp (htie a l _ _ _ rfl h)
            have va := val_at (f := fun e => V.ref e.1) nd me'
            rw [el] at va
            refine ⟨D1, _, rfl, .inl ⟨bxs es, keyS l, .inl g111, rfl, va.symm⟩, ?_⟩
            tm_at "rzs"
            exact s11
        · rintro σ H11 ⟨v5, rfl, s11⟩
          exact ⟨_, _, _, rfl, s810.trans s11⟩
      · rintro σ H9 ⟨v3, v4, v5, rfl, s9⟩
        exact hNN _ _ ⟨_, _, _, rfl, s9⟩
    rintro σ H9 ⟨v3, v4, v5, rfl, s9⟩
    tm_at "rzs"
    refine ⟨hb.ks (K8.same s9), fun q H10 s10 g10 => ?_⟩
    have s810 := s9.trans s10
    have K10 : KeepS H H10 := K8.same s810
    obtain ⟨_, _, _, _, _, _, _, _, _, _, okt⟩ := hb.ob
    tm_at "rzs"
    refine ⟨⟨_, sqT g10⟩, fun D3 hD3 => lcTx (K := K) (xs := [t.st.getD 0 .non, t.st.getD 1 .non]) (fun _ => V.bl false) hD3 (sqT g10) (Nat.le_of_ble_eq_true rfl) (fun j z H11 Kt Kf hz s11 kt => ?_) (fun H11 s11 g11 => ?_)⟩
    · obtain ⟨hsz, hrt⟩ : SzAt H z ∧ ∀ a xs, z = .ref a → H a = some (.tup xs) → xs.length ≠ 2 := by
        have R0 := fun a xs => hok.root 0 a xs (by decide)
        have R1 := fun a xs => hok.root 1 a xs (by decide)
        obtain ⟨w0, w1, w2, w3, w4, w5, w6, w7, w8, w9, eb⟩ := ten okt.1
        rw [eb] at hz okt R0 R1
        match j, hz with
        | 0, hz => cases hz; exact ⟨okt.2 0 _ rfl, R0⟩
        | 1, hz => cases hz; exact ⟨okt.2 1 _ rfl, R1⟩
        | n + 2, hz => cases hz
      have K11 : KeepS H H11 := K10.same s11
      cases hsz with
      | non =>
        tm_at "rds"
        refine .inl ⟨_, .non, by decide, ?_⟩
        exact kt _ (Same.refl _)
      | cells n =>
        tm_at "rds"
        refine .inl ⟨_, .int _, by decide, ?_⟩
        exact kt _ (Same.refl _)
      | part a n h => exact absurd rfl (hrt a _ rfl h)
      | tie a l sd m hl hs h =>
        tm_at "rds"
        refine .inr ⟨a, _, rfl, K11.tup h, ?_⟩
        exact kt _ (Same.refl _)
    have g11 : H11 D3 = some (.lst (([false, false] : List Bool).map V.bl)) := g11
    tm_at "rzs"
    refine ⟨D3, _, rfl, sqL g11, ?_⟩
    tm_at "rzs"
    have s811 := s810.trans s11
    have Bx : But x H H8 := fun b o n e => b8 _ _ n (s7 _ _ (b6 _ _ n (s5 _ _ (b4 _ _ n (s3 _ _ (b2 _ _ (ne_of_none e f1) (s1 _ _ e)))))))
    have fD : H D = none := by
      cases e : H D with
      | none => rfl
      | some o => rw [b2 _ _ (ne_of_none e f1) (s1 _ _ e)] at hD; cases hD
    refine k D H11 (Bx.trans (Same.but s811)) ⟨dx, D1, D2, s811 _ _ g8, ?_, ?_, ?_⟩ fD
    · rw [hes]; exact s811 _ _ gD8
    · rw [hes]; exact s811 _ _ g18
    · rw [hes]; exact s811 _ _ g28
end
end My
namespace My
open PySem PySem.Spec PyProof.Rows L2
section
variable {P : Program} {w : World} {K : PySem.W.Frag} {mg : Str → Option Value} {base : Heap}
def NoNm (K : PySem.W.Frag) (H : Hp) (v : V) (ls : List (List Nat)) : Prop := (∃ ty, (∀ H', Same H H' → TyX K H' v ty) ∧ PySem.W.kitOne K ty (.type "str") = some false) ∨ ∃ z : Str, v = .str z ∧ ∀ l ∈ ls, z ≠ sO l
theorem NoNm.same {K : PySem.W.Frag} {H H' : Hp} {v : V} {ls : List (List Nat)} (h : NoNm K H v ls) (s : Same H H') : NoNm K H' v ls := h.imp (fun ⟨ty, a, b⟩ => ⟨ty, fun H'' s' => a H'' (s.trans s'), b⟩) id
def sp_Nest_named (C cN : Addr) (K : PySem.W.Frag) : Sp := fun vs H Q E => ∃ (x : Addr) (t : At) (v : V), vs = [.ref x, v] ∧ NestAt C H x t ∧ ((t.pre .non).map (·.2.1)).Nodup ∧ ((∃ e, v = .str (sO e.2.1) ∧ e ∈ t.pre .non ∧ Q (.ref e.1) H) ∨ (NoNm K H v ((t.pre .non).map (·.2.1)) ∧ ∀ H', Same H H' → E (.ref cN) none H'))
theorem ok_Nest_named (T : Tx w K mg) : FnOk P w K mg base (L2N.CX P w) 1 T.d_Nest_named.f T.d_Nest_named.fd ["self", "name"] (sp_Nest_named T.c_Nest.C T.e_NoName.C K) := by
  refine T.d_Nest_named.F.okN sc_Nest_named (fun vs H Q E h => ?_) (fun cdv A outer s H vs Q E hr h => ?_)
  · obtain ⟨x, t, v, rfl, _⟩ := h
    rfl
  · obtain ⟨x, t, v, rfl, hN, nd, h⟩ := h
    obtain ⟨dx, o, d1, d2, hx, ho, h1, h2⟩ := hN
    refine ⟨_, (pss_cons (ps_if (PW.pt (pw_or (pt_not (pt_val (pe_callB (call_isiK (K := K) rfl) (by rfl) T.b_isinstance (by decide +kernel) (pa_cons (pv 1) (pa_cons (pe_bltn (v := .ty "str") (by rfl) T.b_str (by decide +kernel) rfl) pa_nil))))) (pw_or1 (pt_cmp (pc_dnotin (hu_of hr) (pv 1) (pe_fldK (K := K) rfl (pv 0) rfl))))))
      (pss_one (L2N.ps_raise rfl (L2N.takes_of rfl rfl rfl rfl) (L2N.pmk_own PySem.F.excBase_ValueError T.e_NoName.x T.e_NoName.g T.e_NoName.k (raises_own T.e_NoName.b T.e_NoName.t) rfl)))
      pss_nil)
      (pss_one (ps_ret (pe_dget (hu_of hr) (pe_fldK (K := K) rfl (pv 0) rfl) (pv 1) (fun _ _ => rfl))))), ?_⟩
    rcases h with ⟨e, rfl, me, k⟩ | ⟨hv, k⟩
    · have va := val_at (f := fun e => V.ref e.1) nd me
      tm_at "rzs"
      refine ⟨_, _, _, _, _, rfl, .ty _, Ty7.tx (Ty7.str _), kit_ty (r := true) (by decide +kernel), ?_⟩
      tm_at "rzs"
      refine ⟨_, _, _, _, _, rfl, hx, T.c_Nest.cls, T.n_Nest_box_by, rfl, ?_⟩
      refine ⟨d1, _, rfl, .inl ⟨bxs (t.pre .non), keyS e.2.1, .inl h1, rfl, va.symm⟩, ?_⟩
      tm_at "rzs"
      refine ⟨_, _, _, _, _, rfl, hx, T.c_Nest.cls, T.n_Nest_box_by, rfl, ?_⟩
      tm_at "rzs"
      refine ⟨d1, _, rfl, .inl ⟨bxs (t.pre .non), keyS e.2.1, .inl h1, rfl, va.symm⟩, ?_⟩
      exact k
    · rcases hv with ⟨ty, hty, hk⟩ | ⟨z, rfl, hz⟩
      · tm_at "rzs"
        refine ⟨_, _, _, _, _, rfl, .ty _, hty H (Same.refl _), hk, ?_⟩
        tm_at "rzs"
        exact k H (Same.refl _)
      · tm_at "rzs"
        refine ⟨_, _, _, _, _, rfl, .ty _, Ty7.tx (Ty7.str _), kit_ty (r := true) (by decide +kernel), ?_⟩
        tm_at "rzs"
        refine ⟨_, _, _, _, _, rfl, hx, T.c_Nest.cls, T.n_Nest_box_by, rfl, ?_⟩
        obtain ⟨l, rfl⟩ : ∃ l, z = sO l := ⟨z.cps.toList, (sO_tl _).symm⟩
        have vz := val_none (f := fun e => V.ref e.1) (es := t.pre .non) (l := l) fun m => hz l m rfl
        refine ⟨d1, _, rfl, .inl ⟨bxs (t.pre .non), keyS l, .inl h1, rfl, vz.symm⟩, ?_⟩
        tm_at "rzs"
        exact k H (Same.refl _)
end
end My
namespace My
open PySem PySem.Spec PyProof.Rows L2
section
variable {P : Program} {w : World} {K : PySem.W.Frag} {mg : Str → Option Value} {base : Heap}
def sp_names_of (bc : Kd → Addr) (S : Addr) (K : PySem.W.Frag) : Sp := fun vs H Q _ => ∃ (t : At), vs = [.ref t.x] ∧ BoxAt bc S K H t ∧ t.depth ≤ 19 ∧ (t.pre .non).length ≤ 5000 ∧ TreeIn H t ∧ ∀ (p : Addr) H', Same H H' → H p = none → H' p = some (.lst (nms (t.pre .non))) → Q (.ref p) H'
theorem ok_names_of (T : Tx w K mg) : FnOk P w K mg base CX0 25 T.d_names_of.f T.d_names_of.fd ["tree"] (sp_names_of (bcT T) T.c_Style.C K) := by
  refine T.d_names_of.F.ok sc_names_of (fun vs H Q E h => ?_) (fun cdv A outer s H vs Q E hr h => ?_)
  · obtain ⟨t, rfl, _⟩ := h
    rfl
  · obtain ⟨t, rfl, hb, hd, hl, hok, k⟩ := h
    refine ⟨_, (pss_one (ps_ret (pe_fldK (K := K) rfl (pe_make T.d_Nest_init.mks (ok_Nest_init T) (hr.mono (by decide)) (by rfl) T.c_Nest.g T.d_Nest_init.b .nil pass0 (pa_cons (pv 0) pa_nil)) rfl))), ?_⟩
    tm_at "rzs"
    dsimp only [tNil, List.cons_append, List.nil_append]
    intro x dx fx fdx ndx
    have smb := make_same (o := HO.own x) (o' := HO.ins T.c_Nest.C dx []) fx fdx ndx
    refine ⟨x, dx, t, rfl, upd_same, hb.ks (Same.ks smb), hd, hl, (hok.ks (Same.ks smb)).ok, fun o H2 b2 hN fo => ⟨rfl, ?_⟩⟩
    have s2 : Same H H2 := Same.mut' smb b2 fx
    obtain ⟨dx', d1, d2, hx, ho, h1, h2⟩ := hN
    tm_at "rzs"
    refine ⟨_, _, _, _, _, rfl, hx, T.c_Nest.cls, T.n_Nest_order, rfl, ?_⟩
    exact k o H2 s2 (smb.free fo) ho
end
end My
namespace My
open PySem PySem.Spec PyProof.Rows L2
section
variable {P : Program} {w : World} {K : PySem.W.Frag} {mg : Str → Option Value} {base : Heap}
def sp_box_of (bc : Kd → Addr) (S cN : Addr) (K : PySem.W.Frag) : Sp := fun vs H Q E => ∃ (t : At) (v : V), vs = [.ref t.x, v] ∧ BoxAt bc S K H t ∧ t.depth ≤ 19 ∧ (t.pre .non).length ≤ 5000 ∧ TreeIn H t ∧ ((∃ e, v = .str (sO e.2.1) ∧ e ∈ t.pre .non ∧ ∀ H', Same H H' → Q (.ref e.1) H') ∨ (NoNm K H v ((t.pre .non).map (·.2.1)) ∧ ∀ H', Same H H' → E (.ref cN) none H'))
theorem ok_box_of (T : Tx w K mg) : FnOk P w K mg base (L2N.CX P w) 25 T.d_box_of.f T.d_box_of.fd ["tree", "name"] (sp_box_of (bcT T) T.c_Style.C T.e_NoName.C K) := by
  refine T.d_box_of.F.okN sc_box_of (fun vs H Q E h => ?_) (fun cdv A outer s H vs Q E hr h => ?_)
  · obtain ⟨t, v, rfl, _⟩ := h
    rfl
  · obtain ⟨t, v, rfl, hb, hd, hl, hok, h⟩ := h
    refine ⟨_, (pss_one (ps_ret (pe_meth (pe_make T.d_Nest_init.mks (ok_Nest_init T) (hr.mono (by decide)) (by rfl) T.c_Nest.g T.d_Nest_init.b .nil pass0 (pa_cons (pv 0) pa_nil)) T.c_Nest.cls T.d_Nest_named.meth (ok_Nest_named T) (hr.mono (by decide)) T.d_Nest_named.b .nil (L2N.passes_call (L2N.takes_of rfl rfl rfl rfl) (fun _ _ _ _ h => h)) (pa_cons (pv 1) pa_nil)))), ?_⟩
    tm_at "rzs"
    dsimp only [tNil, List.cons_append, List.nil_append]
    intro x dx fx fdx ndx
    have smb := make_same (o := HO.own x) (o' := HO.ins T.c_Nest.C dx []) fx fdx ndx
    refine ⟨x, dx, t, rfl, upd_same, hb.ks (Same.ks smb), hd, hl, (hok.ks (Same.ks smb)).ok, fun o H2 b2 hN fo => ⟨rfl, ?_⟩⟩
    have s2 : Same H H2 := Same.mut' smb b2 fx
    have hNa := hN.at
    obtain ⟨dx', d1, d2, hx, ho, h1, h2⟩ := hN
    tm_at "rzs"
    refine ⟨x, dx', _, rfl, hx, rfl, ?_⟩
    tm_at "rzs"
    unfold sp_Nest_named
    refine ⟨x, t, v, rfl, hNa, hok.nd, ?_⟩
    rcases h with ⟨e, ev, me, k⟩ | ⟨hv, k⟩
    · exact .inl ⟨e, ev, me, k H2 s2⟩
    · exact .inr ⟨hv.same s2, fun H' s => k H' (s2.trans s)⟩
end
end My
namespace My
open PySem PySem.Spec PyProof.Rows L2
section
variable {P : Program} {w : World} {K : PySem.W.Frag} {mg : Str → Option Value} {base : Heap}
def sp_holder_of (bc : Kd → Addr) (S cN : Addr) (K : PySem.W.Frag) : Sp := fun vs H Q E => ∃ (t : At) (v : V), vs = [.ref t.x, v] ∧ BoxAt bc S K H t ∧ t.depth ≤ 19 ∧ (t.pre .non).length ≤ 5000 ∧ TreeIn H t ∧ ((∃ e, v = .str (sO e.2.1) ∧ e ∈ t.pre .non ∧ ∀ H', Same H H' → Q e.2.2 H') ∨ (NoNm K H v ((t.pre .non).map (·.2.1)) ∧ ∀ H', Same H H' → E (.ref cN) none H'))
theorem ok_holder_of (T : Tx w K mg) : FnOk P w K mg base (L2N.CX P w) 25 T.d_holder_of.f T.d_holder_of.fd ["tree", "name"] (sp_holder_of (bcT T) T.c_Style.C T.e_NoName.C K) := by
  refine T.d_holder_of.F.okN sc_holder_of (fun vs H Q E h => ?_) (fun cdv A outer s H vs Q E hr h => ?_)
  · obtain ⟨t, v, rfl, _⟩ := h
    rfl
  · obtain ⟨t, v, rfl, hb, hd, hl, hok, h⟩ := h
    refine ⟨_, (pss_cons (ps_set (i := 2) sc_holder_of.nd rfl (Or.inl rfl) (pe_make T.d_Nest_init.mks (ok_Nest_init T) (hr.mono (by decide)) (by rfl) T.c_Nest.g T.d_Nest_init.b .nil pass0 (pa_cons (pv 0) pa_nil)))
      (pss_one (ps_ret (pe_dget (hu_of hr) (pe_fldK (K := K) rfl (pv 2) rfl) (pe_fldK (K := K) rfl (pe_meth (pv 2) T.c_Nest.cls T.d_Nest_named.meth (ok_Nest_named T) (hr.mono (by decide)) T.d_Nest_named.b .nil (L2N.passes_call (L2N.takes_of rfl rfl rfl rfl) (fun _ _ _ _ h => h)) (pa_cons (pv 1) pa_nil)) rfl) (fun _ _ => rfl))))), ?_⟩
    tm_at "rzs"
    dsimp only [tNil, List.cons_append, List.nil_append]
    intro x dx fx fdx ndx
    have smb := make_same (o := HO.own x) (o' := HO.ins T.c_Nest.C dx []) fx fdx ndx
    refine ⟨x, dx, t, rfl, upd_same, hb.ks (Same.ks smb), hd, hl, (hok.ks (Same.ks smb)).ok, fun o H2 b2 hN fo => ⟨rfl, ?_⟩⟩
    have s2 : Same H H2 := Same.mut' smb b2 fx
    have hNa := hN.at
    obtain ⟨dx', d1, d2, hx, ho, h1, h2⟩ := hN
    tm_at "rzs"
    refine ⟨_, _, _, _, _, rfl, hx, T.c_Nest.cls, T.n_Nest_holder_by, rfl, ?_⟩
    tm_at "rzs"
    refine ⟨x, dx', _, rfl, hx, rfl, ?_⟩
    tm_at "rzs"
    unfold sp_Nest_named
    refine ⟨x, t, v, rfl, hNa, hok.nd, ?_⟩
    rcases h with ⟨e, ev, me, k⟩ | ⟨hv, k⟩
    · refine .inl ⟨e, ev, me, ?_⟩
      obtain ⟨b, hbb, bx, bn, _⟩ := pre_box (hb.ks (Same.ks s2)) _ e me
      obtain ⟨bd, y, dy, fs, hbx, ln, _⟩ := hbb.ob
      rw [bx] at hbx
      rw [bn] at ln
      have vh := val_at (f := fun e => e.2.2) hok.nd me
      tm_at "rzs"
      refine ⟨_, _, _, _, _, rfl, hbx, (kdT T).cl _, (kdT T).nm _, ln, ?_⟩
      tm_at "rzs"
      refine ⟨d2, _, rfl, .inl ⟨hds (t.pre .non), keyS e.2.1, .inl h2, rfl, vh.symm⟩, ?_⟩
      exact k H2 s2
    · exact .inr ⟨hv.same s2, fun H' s => k H' (s2.trans s)⟩
end
end My
namespace My
open PySem PySem.Spec PyProof.Rows L2
section
variable {P : Program} {w : World} {K : PySem.W.Frag} {mg : Str → Option Value} {base : Heap}
def sp_w_cell_at (K : PySem.W.Frag) : Sp := fun vs H Q _ => ∃ (a : Addr) (ns : List Int) (k : Nat), vs = [.ref a, .int (k : Int)] ∧ SqL K H a (ns.map V.int) ∧ ns.length ≤ 63 ∧ ∀ z : Int, Q (.int z) H
theorem ok_w_cell_at (T : Tx w K mg) : FnOk P w K mg base CX0 1 T.d_w_cell_at.f T.d_w_cell_at.fd ["_law_script", "_law_k"] (sp_w_cell_at K) := by
  refine T.d_w_cell_at.F.ok sc_w_cell_at (fun vs H Q E h => ?_) (fun cdv A outer s H vs Q E hr h => ?_)
  · obtain ⟨x, t, j, rfl, _⟩ := h
    rfl
  · obtain ⟨a, ns, j, rfl, hS, hl, k⟩ := h
    refine ⟨_, (pss_cons (ps_if (pt_cmpR op_lt (pv 1) (pe_callB (call_lenK (K := K) rfl) (by rfl) T.b_len (by decide +kernel) (pa_cons (pv 0) pa_nil)) (nomark _))
      (pss_one (ps_ret (pe_ix (ix_seqK (K := K) rfl) (pv 0) (pv 1) (fun _ _ => rfl))))
      pss_nil)
      (pss_one (ps_ret pe_int))), ?_⟩
    tm_at "rds"
    by_cases e : j < ns.length
    · refine iteT' (decide_eq_true (by rw [List.length_map]; omega)) ?_
      tm_at "rds"
      refine .inl ⟨_, _, _, _, rfl, rfl, hS, atI_nat (v := .int ns[j]) (by rw [List.getElem?_map, List.getElem?_eq_getElem e]; rfl), ?_⟩
      exact k _
    · refine iteF' (decide_eq_false (by rw [List.length_map]; omega)) ?_
      tm_at "rzs"
      exact k _
end
end My
namespace My
open PySem PySem.Spec PyProof.Rows L2
section
variable {P : Program} {w : World} {K : PySem.W.Frag} {mg : Str → Option Value} {base : Heap}
def sp_w_mixed : Sp := fun vs H Q _ => ∃ (c k : Int), vs = [.int c, .int k] ∧ ∀ n : Int, 0 ≤ n → Q (.int n) H
theorem ok_w_mixed (T : Tx w K mg) : FnOk P w K mg base CX0 1 T.d_w_mixed.f T.d_w_mixed.fd ["_law_cell", "_law_k"] (sp_w_mixed) := by
  refine T.d_w_mixed.F.ok sc_w_mixed (fun vs H Q E h => ?_) (fun cdv A outer s H vs Q E hr h => ?_)
  · obtain ⟨x, t, rfl, _⟩ := h
    rfl
  · obtain ⟨c, j, rfl, k⟩ := h
    refine ⟨_, (pss_cons (ps_set (i := 2) sc_w_mixed.nd rfl (Or.inl rfl) (pe_op op_add (pe_op op_add (pe_op op_add (pe_op op_mod (pv 0) pe_int) (pe_op op_mul (pe_op op_fdivW (pv 0) pe_int) pe_int)) (pe_op op_mul pe_int (pv 1))) pe_int))
      (pss_cons (ps_set (i := 2) sc_w_mixed.nd rfl (Or.inl rfl) (pe_op op_mod (pe_op op_mul (pv 2) pe_int) pe_int))
      (pss_cons (ps_set (i := 2) sc_w_mixed.nd rfl (Or.inl rfl) (pe_op op_mod (pe_op op_mul (pv 2) (pe_op op_add (pe_op op_add (pe_op op_fdivW (pv 2) pe_int) pe_int) (pv 1))) pe_int))
      (pss_one (ps_ret (pe_op op_mod (pe_op op_mul (pv 2) (pe_op op_add (pe_op op_fdivW (pv 2) pe_int) pe_int)) pe_int)))))), ?_⟩
    tm_at "rds"
    refine k _ ?_
    exact Int.emod_nonneg _ (by decide)
end
end My
namespace My
open PySem PySem.Spec PyProof.Rows L2
section
variable {P : Program} {w : World} {K : PySem.W.Frag} {mg : Str → Option Value} {base : Heap}
def sp_w_source : Sp := fun vs H Q _ => ∃ (c : Int), vs = [.int c] ∧ New H (src (c, c, 0)) Q
theorem ok_w_source (T : Tx w K mg) : FnOk P w K mg base CX0 1 T.d_w_source.f T.d_w_source.fd ["_law_cell"] (sp_w_source) := by
  refine T.d_w_source.F.ok sc_w_source (fun vs H Q E h => ?_) (fun cdv A outer s H vs Q E hr h => ?_)
  · obtain ⟨x, rfl, _⟩ := h
    rfl
  · obtain ⟨c, rfl, k⟩ := h
    refine ⟨_, (pss_one (ps_ret (pe_lstA (pa_cons (pv 0) (pa_cons (pv 0) (pa_cons pe_int pa_nil)))))), ?_⟩
    refine ⟨_, rfl, _, rfl, (by show 3 ≤ sizeLine; decide), k⟩
end
end My
namespace My
open PySem PySem.Spec PyProof.Rows L2
section
variable {P : Program} {w : World} {K : PySem.W.Frag} {mg : Str → Option Value} {base : Heap}
def sp_w_next : Sp := fun vs H Q _ => ∃ (a : Addr) (m : Int), vs = [.ref a, .int m] ∧ Src H a ∧ 0 < m ∧ m < 2 ^ 64 ∧
  ∀ (n : Int) (H' : Hp), Dr a H H' → 0 ≤ n → n < m → Q (.int n) H'
theorem ok_w_next (T : Tx w K mg) : FnOk P w K mg base CX0 2 T.d_w_next.f T.d_w_next.fd ["_law_source_here", "_law_many"] (sp_w_next) := by
  refine T.d_w_next.F.ok sc_w_next (fun vs H Q E h => ?_) (fun cdv A outer s H vs Q E hr h => ?_)
  · obtain ⟨a, m, rfl, _⟩ := h
    rfl
  · obtain ⟨a, m, rfl, ⟨⟨c0, c1, c2⟩, hs⟩, m0, m1, k⟩ := h
    have hL : SqL K H a [.int c0, .int c1, .int c2] := sqL hs
    refine ⟨_, (pss_cons (ps_if (pt_cmpR op_ge (pe_ix (ix_seqK (K := K) rfl) (pv 0) pe_int (fun _ _ => rfl)) (pe_op op_pow pe_int pe_int) (nomark _))
      (pss_cons (ps_set (i := 2) sc_w_next.nd rfl (Or.inl rfl) (pe_op op_mod (pe_ix (ix_seqK (K := K) rfl) (pv 0) pe_int (fun _ _ => rfl)) (pv 1)))
      (pss_cons (ps_asg (pe_op op_fdivW (pe_ix (ix_seqK (K := K) rfl) (pv 0) pe_int (fun _ _ => rfl)) (pv 1)) (pg_sub (pv 0) pe_int set_listA))
      (pss_one (ps_ret (pv 2)))))
      pss_nil)
      (pss_cons (ps_asg (pe_op op_add (pe_ix (ix_seqK (K := K) rfl) (pv 0) pe_int (fun _ _ => rfl)) pe_int) (pg_sub (pv 0) pe_int set_listA))
      (pss_one (ps_ret (pe_op op_mod (pe_call (ok_w_mixed T) (hr.mono (by decide)) (by rfl) T.d_w_mixed.g T.d_w_mixed.F.kp T.d_w_mixed.b .nil pass0 (pa_cons (pe_ix (ix_seqK (K := K) rfl) (pv 0) pe_int (fun _ _ => rfl)) (pa_cons (pe_ix (ix_seqK (K := K) rfl) (pv 0) pe_int (fun _ _ => rfl)) pa_nil))) (pv 1)))))), ?_⟩
    refine ⟨_, rfl, .inl ⟨_, _, _, _, rfl, rfl, hL, atI_nat (j := 0) rfl, _, _, rfl, rfl, ⟨by decide, by decide, by decide⟩, _, _, rfl, rfl, _, rfl, ite2 (fun e => ?_) (fun e => ?_)⟩⟩
    · refine ⟨_, rfl, .inl ⟨_, _, _, _, rfl, rfl, hL, atI_nat (j := 0) rfl, ?_⟩⟩
      tm_at "rds"
      refine .inl ⟨_, _, _, _, rfl, rfl, hL, atI_nat (j := 0) rfl, ?_⟩
      tm_at "rds"
      refine ⟨_, _, _, _, rfl, rfl, hs, rfl, fun H1 B1 g1 => ?_⟩
      tm_at "rds"
      refine k _ _ ⟨⟨(c0 / m, c1, c2), g1⟩, B1⟩ ?_ ?_
      · exact Int.emod_nonneg _ (by omega)
      · exact Int.emod_lt_of_pos _ m0
    · refine ⟨_, rfl, .inl ⟨_, _, _, _, rfl, rfl, hL, atI_nat (j := 2) rfl, ?_⟩⟩
      tm_at "rds"
      refine ⟨_, _, _, _, rfl, rfl, hs, rfl, fun H1 B1 g1 => ?_⟩
      refine ⟨_, rfl, .inl ⟨_, _, _, _, rfl, rfl, sqL g1, atI_nat (j := 1) rfl, ?_⟩⟩
      refine ⟨_, rfl, .inl ⟨_, _, _, _, rfl, rfl, sqL g1, atI_nat (j := 2) rfl, ?_⟩⟩
      refine ⟨_, _, rfl, fun n n0 => ?_⟩
      tm_at "rds"
      refine k _ _ ⟨⟨(c0, c1, c2 + 1), g1⟩, B1⟩ ?_ ?_
      · exact Int.emod_nonneg _ (by omega)
      · exact Int.emod_lt_of_pos _ m0
end
end My
namespace My
open PySem PySem.Spec PyProof.Rows L2
section
variable {P : Program} {w : World} {K : PySem.W.Frag} {mg : Str → Option Value} {base : Heap}
def sp_w_letters : Sp := fun vs H Q _ => ∃ (n : Nat), vs = [.int (n : Int)] ∧ n < 10 ^ 12 ∧ Q (.str (sO (letL (n + 1)))) H
theorem ok_w_letters (T : Tx w K mg) : FnOk P w K mg base CX0 1 T.d_w_letters.f T.d_w_letters.fd ["_law_number_here"] (sp_w_letters) := by
  refine T.d_w_letters.F.ok sc_w_letters (fun vs H Q E h => ?_) (fun cdv A outer s H vs Q E hr h => ?_)
  · obtain ⟨n, rfl, _⟩ := h
    rfl
  · obtain ⟨n, rfl, hn, k⟩ := h
    refine ⟨_, (pss_cons (ps_set (i := 1) sc_w_letters.nd rfl (Or.inl rfl) pe_str)
      (pss_cons (ps_set (i := 0) sc_w_letters.nd rfl (Or.inl rfl) (pe_op op_add (pv 0) pe_int))
      (pss_cons (ps_while PassesOwn.never (pt_cmpR op_gt (pv 0) pe_int (nomark _))
      (pss_cons (ps_set (i := 1) sc_w_letters.nd rfl (Or.inl rfl) (pe_op op_add_str (pv 1) (pe_ix ix_str pe_str (pe_op op_mod (pe_op op_sub (pv 0) pe_int) pe_int) (fun _ _ => rfl))))
      (pss_one (ps_set (i := 0) sc_w_letters.nd rfl (Or.inl rfl) (pe_op op_fdivW (pe_op op_sub (pv 0) pe_int) pe_int)))))
      (pss_one (ps_ret (pv 1)))))), ?_⟩
    tm_at "rzs"
    refine ⟨fun w σ H' => ∃ (m : Nat) (l : List Nat), σ = [some (.int (m : Int)), some (.str (sO l))] ∧ w = m ∧ m ≤ 10 ^ 12 ∧ l ++ letL m = letL (n + 1) ∧ H' = H, ⟨n + 1, n + 1, [], by rw [← empty_eq]; rfl, rfl, by omega, rfl, rfl⟩, ?_⟩
    rintro w σ H1 ⟨m, l, rfl, rfl, hm, el, rfl⟩
    tm_at "rzs"
    refine ite2 (fun e => ?_) (fun e => ?_)
    · have e := of_decide_eq_true e
      have w0 : w ≠ 0 := by omega
      refine ⟨_, fun σ' H' h => h, ?_⟩
      have e3 : ((w : Int) - 1) / 26 = (((w - 1) / 26 : Nat) : Int) := by omega
      have e4 : ((w : Int) - 1) % 26 = (((w - 1) % 26 : Nat) : Int) := by omega
      have ll : l.length ≤ 9 := by
        have h9 := letL_len 9 (n + 1) (by have : topL 9 = 5646683826134 := by decide +kernel
                                          omega)
        rw [← el, List.length_append] at h9
        omega
      tm_at "rzs"
      refine ⟨_, _, letN (((w : Int) - 1) % 26), rfl, rfl, Nat.le_of_ble_eq_true rfl, letN_at (by omega) (by omega), ?_⟩
      refine ⟨_, _, rfl, rfl, by rw [sO_len, sizeLine_eq]; show l.length + 1 ≤ _; omega, ?_⟩
      rw [show (⟨#[letN (((w : Int) - 1) % 26)]⟩ : Str) = sO [letN (((w : Int) - 1) % 26)] from rfl, sO_append]
      tm_at "rzs"
      dsimp only
      rw [e3, e4]
      exact ⟨(w - 1) / 26, by omega, (w - 1) / 26, l ++ [letN (((w - 1) % 26 : Nat) : Int)], rfl, rfl, by omega, by rw [List.append_assoc, ← el, letL_pos w0]; rfl, rfl⟩
    · have e : ¬ (0 < (w : Int)) := fun z => e (decide_eq_true z)
      have w0 : w = 0 := by omega
      subst w0
      rw [letL_zero, List.append_nil] at el
      subst el
      tm_at "rzs"
      exact k
end
end My
namespace My
open PySem PySem.Spec PyProof.Rows L2
section
variable {P : Program} {w : World} {K : PySem.W.Frag} {mg : Str → Option Value} {base : Heap}
def words12 : List String := ["row", "grid", "words", "tree", "free", "turn", "spot", "pile", "gap", "wide", "tall", "ok"]
def sp_w_name : Sp := fun vs H Q _ => ∃ (s kn : Addr) (ls : List (List Nat)), vs = [.ref s, .ref kn] ∧ Src H s ∧ kn ≠ s ∧ H kn = some (.dK (knD ls)) ∧ ls.length ≤ 1000 ∧ ∀ (l : List Nat) H', Dr s H H' → NameOk l → l ∉ ls → Q (.str (sO l)) H'
theorem ok_w_name (T : Tx w K mg) : FnOk P w K mg base CX0 3 T.d_w_name.f T.d_w_name.fd ["_law_source_here", "_law_known"] (sp_w_name) := by
  refine T.d_w_name.F.ok sc_w_name (fun vs H Q E h => ?_) (fun cdv A outer s H vs Q E hr h => ?_)
  · obtain ⟨s, kn, ls, rfl, _⟩ := h
    rfl
  · obtain ⟨s, kn, ls, rfl, hs, nk, hk, hl, k⟩ := h
    refine ⟨_, (pss_cons (ps_set (i := 2) sc_w_name.nd rfl (Or.inl rfl) (pe_lstA (pa_cons pe_str (pa_cons pe_str (pa_cons pe_str (pa_cons pe_str (pa_cons pe_str (pa_cons pe_str (pa_cons pe_str (pa_cons pe_str (pa_cons pe_str (pa_cons pe_str (pa_cons pe_str (pa_cons pe_str pa_nil))))))))))))))
      (pss_cons (ps_set (i := 3) sc_w_name.nd rfl (Or.inl rfl) (pe_call (ok_w_next T) (hr.mono (by decide)) (by rfl) T.d_w_next.g T.d_w_next.F.kp T.d_w_next.b .nil pass0 (pa_cons (pv 0) (pa_cons pe_int pa_nil))))
      (pss_cons (ps_set (i := 4) sc_w_name.nd rfl (Or.inl rfl) (pe_call (ok_w_next T) (hr.mono (by decide)) (by rfl) T.d_w_next.g T.d_w_next.F.kp T.d_w_next.b .nil pass0 (pa_cons (pv 0) (pa_cons (pe_ix (ix_listK (K := K) rfl) (pe_lstA (pa_cons pe_int (pa_cons (pe_op op_pow pe_int pe_int) (pa_cons (pe_op op_pow pe_int pe_int) (pa_cons pe_int pa_nil))))) (pv 3) (fun _ _ => rfl)) pa_nil))))
      (pss_cons (ps_if (PW.pt (pw_and (pt_cmpR op_eq (pv 3) pe_int (nomark _)) (pw_and1 (pt_cmp (pc_dnotin (hu_of hr) (pe_ix (ix_listK (K := K) rfl) (pv 2) (pv 4) (fun _ _ => rfl)) (pv 1))))))
      (pss_one (ps_ret (pe_ix (ix_listK (K := K) rfl) (pv 2) (pv 4) (fun _ _ => rfl))))
      pss_nil)
      (pss_cons (ps_while PassesOwn.never (pt_cmp (pc_din (hu_of hr) (pe_call (ok_w_letters T) (hr.mono (by decide)) (by rfl) T.d_w_letters.g T.d_w_letters.F.kp T.d_w_letters.b .nil pass0 (pa_cons (pv 4) pa_nil)) (pv 1)))
      (pss_one (ps_set (i := 4) sc_w_name.nd rfl (Or.inl rfl) (pe_op op_add (pv 4) pe_int))))
      (pss_one (ps_ret (pe_call (ok_w_letters T) (hr.mono (by decide)) (by rfl) T.d_w_letters.g T.d_w_letters.F.kp T.d_w_letters.b .nil pass0 (pa_cons (pv 4) pa_nil))))))))), ?_⟩
    tm_at "rzs"
    intro p1 H1 f1 s1 g1
    dsimp only [gName]
    tm_at "rzs"
    intro z2 H2 d2 l2 u2
    dsimp only [gName]
    tm_at "rzs"
    intro p3 H3 f3 s3 g3
    obtain ⟨m, hx, m0, m1, m2⟩ : ∃ m : Int, atI [V.int 26, .int (26 ^ (3 : Int).toNat), .int (26 ^ (8 : Int).toNat), .int 12] z2 = some (.int m) ∧ 1 ≤ m ∧ m ≤ 208827064576 ∧ (z2 = 3 → m = 12) := by
      have : z2 = 0 ∨ z2 = 1 ∨ z2 = 2 ∨ z2 = 3 := by omega
      rcases this with rfl | rfl | rfl | rfl <;> exact ⟨_, rfl, by decide, by decide, by decide⟩
    tm_at "rzs"
    refine ⟨_, _, _, _, rfl, rfl, sqL g3, hx, ?_⟩
    have d03 : Dr s H H3 := ((Dr.of hs s1).trans d2).same s3
    have n1 : p1 ≠ s := hs.ne f1
    tm_at "rzs"
    intro n4 H4 d4 l4 u4
    obtain ⟨n, rfl⟩ := Int.eq_ofNat_of_zero_le l4
    dsimp only [gName]
    have d04 := d03.trans d4
    have hk4 : H4 kn = some (.dK (knD ls)) := d04.app nk hk
    have g14 := d4.app n1 (s3 _ _ (d2.app n1 g1))
    refine seq_key (M := fun σ H' => σ = [some (.ref s), some (.ref kn), some (.ref p1), some (.int z2), some (.int (n : Int))] ∧ H' = H4) ?rest (fun NN hNN => ?stm)
    case stm =>
      tm_at "rzs"
      by_cases e2 : z2 = 3
      · subst e2
        refine iteT' (by rfl) ?_
        have n12 := m2 rfl
        obtain ⟨wv, hx, l, rfl, lok⟩ := pickL (P := fun v => ∃ l : List Nat, v = .str (sO l) ∧ NameOk l) (n := (n : Int)) (by omega) (show (n : Int) < 12 by omega) (xs := words12.map sX) (fun y my => by
          simp only [words12, List.map_cons, List.map_nil, List.mem_cons, List.not_mem_nil, or_false] at my
          rcases my with rfl | rfl | rfl | rfl | rfl | rfl | rfl | rfl | rfl | rfl | rfl | rfl
          · exact ⟨(Str.ofString "row").cps.toList, by rw [sO_tl], by unfold NameOk; decide +kernel⟩
          · exact ⟨(Str.ofString "grid").cps.toList, by rw [sO_tl], by unfold NameOk; decide +kernel⟩
          · exact ⟨(Str.ofString "words").cps.toList, by rw [sO_tl], by unfold NameOk; decide +kernel⟩
          · exact ⟨(Str.ofString "tree").cps.toList, by rw [sO_tl], by unfold NameOk; decide +kernel⟩
          · exact ⟨(Str.ofString "free").cps.toList, by rw [sO_tl], by unfold NameOk; decide +kernel⟩
          · exact ⟨(Str.ofString "turn").cps.toList, by rw [sO_tl], by unfold NameOk; decide +kernel⟩
          · exact ⟨(Str.ofString "spot").cps.toList, by rw [sO_tl], by unfold NameOk; decide +kernel⟩
          · exact ⟨(Str.ofString "pile").cps.toList, by rw [sO_tl], by unfold NameOk; decide +kernel⟩
          · exact ⟨(Str.ofString "gap").cps.toList, by rw [sO_tl], by unfold NameOk; decide +kernel⟩
          · exact ⟨(Str.ofString "wide").cps.toList, by rw [sO_tl], by unfold NameOk; decide +kernel⟩
          · exact ⟨(Str.ofString "tall").cps.toList, by rw [sO_tl], by unfold NameOk; decide +kernel⟩
          · exact ⟨(Str.ofString "ok").cps.toList, by rw [sO_tl], by unfold NameOk; decide +kernel⟩)
        tm_at "rzs"
        refine ⟨_, _, _, _, rfl, rfl, sqL g14, hx, ?_⟩
        tm_at "rzs"
        refine ⟨kn, _, rfl, DGet.k (k := keyS l) hk4, ?_⟩
        rw [knD_val]
        by_cases ml : l ∈ ls
        · rw [if_pos ml]
          tm_at "rzs"
          exact hNN _ _ ⟨rfl, rfl⟩
        · rw [if_neg ml]
          tm_at "rzs"
          refine ⟨_, _, _, _, rfl, rfl, sqL g14, hx, ?_⟩
          exact k l H4 d04 lok ml
      · refine iteF' (by rw [int_inj_dec]; exact decide_eq_false e2) ?_
        tm_at "rzs"
        exact hNN _ _ ⟨rfl, rfl⟩
    rintro σ H5 ⟨rfl, rfl⟩
    refine seq_key (M := fun σ H' => ∃ k : Nat, σ = [some (.ref s), some (.ref kn), some (.ref p1), some (.int z2), some (.int (k : Int))] ∧ H' = H5 ∧ letL (k + 1) ∉ ls ∧ k ≤ n + ls.length) ?rest2 (fun NN hNN => ?loop)
    case loop =>
      refine ⟨fun w σ H' => ∃ k : Nat, σ = [some (.ref s), some (.ref kn), some (.ref p1), some (.int z2), some (.int (k : Int))] ∧ H' = H5 ∧ w = aheadN ls k ∧ k + aheadN ls k ≤ n + ls.length, ⟨_, n, rfl, rfl, rfl, Nat.add_le_add_left (ahead_len ls n) n⟩, ?_⟩
      rintro w σ H6 ⟨j, rfl, rfl, rfl, hj⟩
      tm_at "rzs"
      refine ⟨kn, _, rfl, DGet.k (k := keyS (letL (j + 1))) hk4, ?_⟩
      rw [knD_val]
      by_cases ml : letL (j + 1) ∈ ls
      · rw [if_pos ml]
        tm_at "rzs"
        refine ⟨_, fun σ' H' h => h, ?_⟩
        tm_at "rzs"
        exact ⟨aheadN ls (j + 1), ahead_lt ml, j + 1, rfl, rfl, rfl, by have := ahead_lt ml; omega⟩
      · rw [if_neg ml]
        tm_at "rzs"
        exact hNN _ _ ⟨j, rfl, rfl, ml, by omega⟩
    rintro σ H6 ⟨k', rfl, rfl, nin, hk'⟩
    tm_at "rzs"
    exact k _ H6 d04 (letL_ok (by have : topL 8 = 217180147158 := by decide +kernel
                                  omega)) nin
end
end My
namespace My
open PySem PySem.Spec PyProof.Rows L2
section
variable {P : Program} {w : World} {K : PySem.W.Frag} {mg : Str → Option Value} {base : Heap}
def sp_w_number : Sp := fun vs H Q _ => ∃ (s : Addr), vs = [.ref s] ∧ Src H s ∧ ∀ (n : Nat) H', Dr s H H' → n < 2 ^ 62 → Q (.int (n : Int)) H'
theorem ok_w_number (T : Tx w K mg) : FnOk P w K mg base CX0 3 T.d_w_number.f T.d_w_number.fd ["_law_source_here"] (sp_w_number) := by
  refine T.d_w_number.F.ok sc_w_number (fun vs H Q E h => ?_) (fun cdv A outer s H vs Q E hr h => ?_)
  · obtain ⟨s, rfl, _⟩ := h
    rfl
  · obtain ⟨s, rfl, hs, k⟩ := h
    refine ⟨_, (pss_one (ps_ret (pe_call (ok_w_next T) (hr.mono (by decide)) (by rfl) T.d_w_next.g T.d_w_next.F.kp T.d_w_next.b .nil pass0 (pa_cons (pv 0) (pa_cons (pe_ix (ix_listK (K := K) rfl) (pe_lstA (pa_cons pe_int (pa_cons pe_int (pa_cons (pe_op op_pow pe_int pe_int) pa_nil)))) (pe_call (ok_w_next T) (hr.mono (by decide)) (by rfl) T.d_w_next.g T.d_w_next.F.kp T.d_w_next.b .nil pass0 (pa_cons (pv 0) (pa_cons pe_int pa_nil))) (fun _ _ => rfl)) pa_nil))))), ?_⟩
    tm_at "rzs"
    intro p7 H7 f7 s7 g7
    have np7 : p7 ≠ s := hs.ne f7
    tm_at "rzs"
    intro n8 H8 d8 l8 u8
    obtain ⟨x, hx, far2, rfl, far0, far1⟩ := pick3 (P := InR 1 100000000001) l8 u8 (a := .int 3) (b := .int 30) (c := .int (10 ^ (11 : Int).toNat)) ⟨_, rfl, by decide, by decide⟩ ⟨_, rfl, by decide, by decide⟩ ⟨_, rfl, by decide, by decide⟩
    refine ⟨_, _, _, _, rfl, rfl, sqL (d8.app np7 g7), hx, ?_⟩
    have d8' : Dr s H H8 := (Dr.of hs s7).trans d8
    tm_at "rzs"
    intro n9 H9 d9 l9 u9
    obtain ⟨m, rfl⟩ := Int.eq_ofNat_of_zero_le l9
    exact k m H9 (d8'.trans d9) (by omega)
end
end My
namespace My
open PySem PySem.Spec PyProof.Rows L2
section
variable {P : Program} {w : World} {K : PySem.W.Frag} {mg : Str → Option Value} {base : Heap}
def signsL : List Nat := (Str.ofString " \n abcdefghijklmnopqrstuvwxyzABCDEFGHIJKLMNOPQRSTUVWXYZ0123456789.,:;!?#&()*+-/<=>\x40[]^_{}~").cps.toList
def sp_w_signs : Sp := fun vs H Q _ => ∃ (s : Addr), vs = [.ref s] ∧ Src H s ∧ ∀ (l : List Nat) H', Dr s H H' → l.length ≤ 12 → (∀ c ∈ l, c < 127) → Q (.str (sO l)) H'
theorem ok_w_signs (T : Tx w K mg) : FnOk P w K mg base CX0 3 T.d_w_signs.f T.d_w_signs.fd ["_law_source_here"] (sp_w_signs) := by
  refine T.d_w_signs.F.ok sc_w_signs (fun vs H Q E h => ?_) (fun cdv A outer s H vs Q E hr h => ?_)
  · obtain ⟨s, rfl, _⟩ := h
    rfl
  · obtain ⟨s, rfl, hs, k⟩ := h
    have sg127 : ∀ c ∈ signsL, c < 127 := by decide +kernel
    have sgl : signsL.length = 90 := by decide +kernel
    refine ⟨_, (pss_cons (ps_set (i := 1) sc_w_signs.nd rfl (Or.inl rfl) pe_str)
      (pss_cons (ps_set (i := 2) sc_w_signs.nd rfl (Or.inl rfl) pe_str)
      (pss_cons (ps_for PassesOwn.never (by rfl) (pi_range1 (by rfl) T.b_range (pa_cons (pe_call (ok_w_next T) (hr.mono (by decide)) (by rfl) T.d_w_next.g T.d_w_next.F.kp T.d_w_next.b .nil pass0 (pa_cons (pv 0) (pa_cons pe_int pa_nil))) pa_nil)) (pg_name (i := 3) sc_w_signs.nd rfl (Or.inl rfl))
      (pss_one (ps_set (i := 2) sc_w_signs.nd rfl (Or.inl rfl) (pe_op op_add_str (pv 2) (pe_ix ix_str (pv 1) (pe_call (ok_w_next T) (hr.mono (by decide)) (by rfl) T.d_w_next.g T.d_w_next.F.kp T.d_w_next.b .nil pass0 (pa_cons (pv 0) (pa_cons (pe_callB (call_lenK (K := K) rfl) (by rfl) T.b_len (by decide +kernel) (pa_cons (pv 1) pa_nil)) pa_nil))) (fun _ _ => rfl))))))
      (pss_one (ps_ret (pv 2)))))), ?_⟩
    tm_at "rzs"
    intro n1 H1 d1 l1 u1
    tm_at "rzs"
    refine for_range (lo := 0) (n := n1.toNat) (fun i σ H' => ∃ (l : List Nat) (v3 : Option V), σ = [some (.ref s), some (sX " \n abcdefghijklmnopqrstuvwxyzABCDEFGHIJKLMNOPQRSTUVWXYZ0123456789.,:;!?#&()*+-/<=>\x40[]^_{}~"), some (.str (sO l)), v3] ∧ Dr s H H' ∧ l.length = i ∧ ∀ c ∈ l, c ∈ signsL)
      ⟨[], _, by rw [← empty_eq]; rfl, d1, rfl, fun c h => by cases h⟩ ?_ ?_
    · rintro i σ H2 hi ⟨l, v2, rfl, d2, ll, lc⟩
      dsimp only [gName]
      tm_at "rzs"
      refine ⟨_, 90, rfl, ⟨by decide +kernel, by decide +kernel⟩, ?_⟩
      tm_at "rzs"
      intro n3 H3 d3 l3 u3
      obtain ⟨c, hc, mc⟩ := at_some (xs := signsL) l3 (by rw [sgl]; exact u3)
      refine ⟨_, _, c, rfl, rfl, Nat.le_of_ble_eq_true rfl, hc, ?_⟩
      refine ⟨_, _, rfl, rfl, by rw [sO_len, sizeLine_eq]; show l.length + 1 ≤ _; omega, ?_⟩
      rw [show (⟨#[c]⟩ : Str) = sO [c] from rfl, sO_append]
      refine ⟨l ++ [c], _, rfl, d2.trans d3, by rw [List.length_append, ll]; rfl, fun d hd => ?_⟩
      rcases List.mem_append.mp hd with h | h
      · exact lc d h
      · rw [List.mem_singleton.mp h]; exact mc
    · rintro σ H2 ⟨l, v2, rfl, d2, ll, lc⟩
      tm_at "rzs"
      exact k l H2 d2 (by omega) fun c m => sg127 c (lc c m)
end
end My
namespace My
open PySem PySem.Spec PyProof.Rows L2
section
variable {P : Program} {w : World} {K : PySem.W.Frag} {mg : Str → Option Value} {base : Heap}
def sp_w_track : Sp := fun vs H Q _ => ∃ (a : Addr), vs = [.ref a] ∧ Src H a ∧ ∀ (v : V) (t : Tk) (H' : Hp), Dr a H H' → TkAt H' v t → t.ok → Q v H'
theorem ok_w_track (T : Tx w K mg) : FnOk P w K mg base CX0 4 T.d_w_track.f T.d_w_track.fd ["_law_source_here"] (sp_w_track) := by
  refine T.d_w_track.F.ok sc_w_track (fun vs H Q E h => ?_) (fun cdv A outer s H vs Q E hr h => ?_)
  · obtain ⟨a, rfl, _⟩ := h
    rfl
  · obtain ⟨a, rfl, hs, k⟩ := h
    refine ⟨_, (pss_one (ps_ret (pe_ix (ix_listK (K := K) rfl) (pe_lstA (pa_cons (pe_call (ok_w_number T) (hr.mono (by decide)) (by rfl) T.d_w_number.g T.d_w_number.F.kp T.d_w_number.b .nil pass0 (pa_cons (pv 0) pa_nil)) (pa_cons pe_str (pa_cons (pe_tupA (pa_cons pe_str (pa_cons (pe_op op_add pe_int (pe_call (ok_w_next T) (hr.mono (by decide)) (by rfl) T.d_w_next.g T.d_w_next.F.kp T.d_w_next.b .nil pass0 (pa_cons (pv 0) (pa_cons pe_int pa_nil)))) pa_nil))) pa_nil)))) (pe_call (ok_w_next T) (hr.mono (by decide)) (by rfl) T.d_w_next.g T.d_w_next.F.kp T.d_w_next.b .nil pass0 (pa_cons (pv 0) (pa_cons pe_int pa_nil))) (fun _ _ => rfl)))), ?_⟩
    tm_at "rzs"
    intro n1 H1 d1 u1
    tm_at "rzs"
    intro n2 H2 d2 l2 u2
    tm_at "rzs"
    intro p3 H3 f3 s3 g3
    tm_at "rzs"
    intro p4 H4 f4 s4 g4
    have d04 := ((d1.trans d2).same s3).same s4
    have n4 : p4 ≠ a := (d2.s.same s3).ne f4
    tm_at "rzs"
    intro n5 H5 d5 l5 u5
    obtain ⟨y, hy, t, ht, ok⟩ := pick3 (P := fun v => ∃ t : Tk, TkAt H4 v t ∧ t.ok) l5 u5 (a := .int (n1 : Int)) (b := sX "fit") (c := .ref p3) ⟨.cells n1, rfl, by show (0 : Int) ≤ _; omega⟩ ⟨.fit, rfl, trivial⟩ ⟨.share (1 + n2), ⟨p3, rfl, s4 _ _ g3⟩, by show 1 ≤ 1 + n2; omega⟩
    refine ⟨_, _, _, _, rfl, rfl, sqL (d5.app n4 g4), hy, ?_⟩
    exact k y t H5 (d04.trans d5) (ht.dr d04.s d5) ok
end
end My
namespace My
open PySem PySem.Spec PyProof.Rows L2
section
variable {P : Program} {w : World} {K : PySem.W.Frag} {mg : Str → Option Value} {base : Heap}
def sp_w_own : Sp := fun vs H Q _ => ∃ (s : Addr) (kd : Kd), vs = [.ref s, sX (kdW kd)] ∧ Src H s ∧
  ∀ (o : Addr) (cs : List Addr) (w : Own) H', Dr s H H' → OwnN H' o cs w → w.kd = kd → OwnB w → (o :: cs).Nodup → (∀ a ∈ o :: cs, H a = none ∧ a ≠ s) → Q (.ref o) H'
theorem ok_w_own (T : Tx w K mg) : FnOk P w K mg base CX0 5 T.d_w_own.f T.d_w_own.fd ["_law_source_here", "_law_kind"] (sp_w_own) := by
  refine T.d_w_own.F.ok sc_w_own (fun vs H Q E h => ?_) (fun cdv A outer s H vs Q E hr h => ?_)
  · obtain ⟨s, kd, rfl, _⟩ := h
    rfl
  · obtain ⟨s, kd, rfl, hs, k⟩ := h
    refine ⟨_, (pss_cons (ps_par (i := 2) (j := 3) (by rfl) sc_w_own.nd rfl rfl (by decide) rfl rfl (pa_cons (pe_call (ok_w_number T) (hr.mono (by decide)) (by rfl) T.d_w_number.g T.d_w_number.F.kp T.d_w_number.b .nil pass0 (pa_cons (pv 0) pa_nil)) (pa_cons (pe_call (ok_w_number T) (hr.mono (by decide)) (by rfl) T.d_w_number.g T.d_w_number.F.kp T.d_w_number.b .nil pass0 (pa_cons (pv 0) pa_nil)) pa_nil)) (by rfl))
      (pss_cons (ps_if (pt_cmpR op_eq (pv 1) pe_str (nomark _))
      (pss_one (ps_ret (pe_lstA (pa_cons (pe_call (ok_w_signs T) (hr.mono (by decide)) (by rfl) T.d_w_signs.g T.d_w_signs.F.kp T.d_w_signs.b .nil pass0 (pa_cons (pv 0) pa_nil)) pa_nil))))
      pss_nil)
      (pss_cons (ps_if (pt_cmpR op_eq (pv 1) pe_str (nomark _))
      (pss_one (ps_ret (pe_lstA (pa_cons (pe_op op_add (pv 2) pe_int) (pa_cons (pe_op op_add (pv 3) pe_int) pa_nil)))))
      pss_nil)
      (pss_cons (ps_set (i := 4) sc_w_own.nd rfl (Or.inl rfl) (pe_ix (ix_listK (K := K) rfl) (pe_lstA (pa_cons pe_str (pa_cons pe_str (pa_cons pe_str (pa_cons pe_str (pa_cons pe_str pa_nil)))))) (pe_call (ok_w_next T) (hr.mono (by decide)) (by rfl) T.d_w_next.g T.d_w_next.F.kp T.d_w_next.b .nil pass0 (pa_cons (pv 0) (pa_cons pe_int pa_nil))) (fun _ _ => rfl)))
      (pss_cons (ps_set (i := 5) sc_w_own.nd rfl (Or.inl rfl) (pe_ix (ix_listK (K := K) rfl) (pe_lstA (pa_cons pe_str (pa_cons pe_str (pa_cons pe_str (pa_cons pe_str pa_nil))))) (pe_call (ok_w_next T) (hr.mono (by decide)) (by rfl) T.d_w_next.g T.d_w_next.F.kp T.d_w_next.b .nil pass0 (pa_cons (pv 0) (pa_cons pe_int pa_nil))) (fun _ _ => rfl)))
      (pss_cons (ps_if (pt_cmpR op_eq (pv 1) pe_str (nomark _))
      (pss_one (ps_ret (pe_lstA (pa_cons (pe_cmpR op_eq (pe_call (ok_w_next T) (hr.mono (by decide)) (by rfl) T.d_w_next.g T.d_w_next.F.kp T.d_w_next.b .nil pass0 (pa_cons (pv 0) (pa_cons pe_int pa_nil))) pe_int (nomark _)) (pa_cons (pv 2) (pa_cons (pv 3) (pa_cons (pv 5) (pa_cons (pv 4) pa_nil))))))))
      pss_nil)
      (pss_cons (ps_if (pt_cmpR op_eq (pv 1) pe_str (nomark _))
      (pss_one (ps_ret (pe_lstA (pa_cons (pv 2) (pa_cons (pv 5) (pa_cons (pv 4) pa_nil))))))
      pss_nil)
      (pss_cons (ps_setLc (i := 6) (own := [("_law_k", 8)]) (g := gName 8) (by rfl) sc_w_own.nd rfl rfl (sw_true rfl rfl rfl (by decide +kernel)) (pi_range1 (by rfl) T.b_range (pa_cons (pe_op op_add pe_int (pe_call (ok_w_next T) (hr.mono (by decide)) (by rfl) T.d_w_next.g T.d_w_next.F.kp T.d_w_next.b .nil pass0 (pa_cons (pv 0) (pa_cons pe_int pa_nil)))) pa_nil)) (blkOk_by (own := [("_law_k", 8)]) (N := N_w_own) (sc := defScope s_w_own) (by decide +kernel)) (fun _ _ _ _ _ => (pg_name (i := 8) sc_w_own.nd rfl (Or.inl rfl))) (fun _ _ _ _ _ => pts_nil) (fun _ _ _ _ _ => (pe_call (ok_w_track T) (hr.mono (by decide)) (by rfl) T.d_w_track.g T.d_w_track.F.kp T.d_w_track.b .nil pass0 (pa_cons (pv 0) pa_nil))))
      (pss_cons (ps_setLc (i := 7) (own := [("_law_k", 8)]) (g := gName 8) (by rfl) sc_w_own.nd rfl rfl (sw_true rfl rfl rfl (by decide +kernel)) (pi_range1 (by rfl) T.b_range (pa_cons (pe_op op_add pe_int (pe_call (ok_w_next T) (hr.mono (by decide)) (by rfl) T.d_w_next.g T.d_w_next.F.kp T.d_w_next.b .nil pass0 (pa_cons (pv 0) (pa_cons pe_int pa_nil)))) pa_nil)) (blkOk_by (own := [("_law_k", 8)]) (N := N_w_own) (sc := defScope s_w_own) (by decide +kernel)) (fun _ _ _ _ _ => (pg_name (i := 8) sc_w_own.nd rfl (Or.inl rfl))) (fun _ _ _ _ _ => pts_nil) (fun _ _ _ _ _ => (pe_call (ok_w_track T) (hr.mono (by decide)) (by rfl) T.d_w_track.g T.d_w_track.F.kp T.d_w_track.b .nil pass0 (pa_cons (pv 0) pa_nil))))
      (pss_one (ps_ret (pe_lstA (pa_cons (pe_lstA pa_nil) (pa_cons (pv 6) (pa_cons (pv 7) (pa_cons (pv 2) (pa_cons (pv 3) (pa_cons (pv 4) pa_nil)))))))))))))))))), ?_⟩
    tm_at "rzs"
    intro one H1 d1 b1
    tm_at "rzs"
    intro oth H2 d2 b2
    have d02 := d1.trans d2
    refine ⟨_, _, rfl, ?_⟩
    dsimp only
    have fin1 : ∀ (p : Addr) (w : Own) (H' H'' : Hp), Dr s H H' → H' p = none → Same H' H'' → OwnN H'' p [] w → w.kd = kd → OwnB w → Q (.ref p) H'' := fun p w H' H'' d f sm ow e b => k p [] w H'' (d.same sm) ow e b (by simp) fun a m => by
      rw [List.mem_singleton.mp m]
      exact ⟨d.free f (d.s.ne f), d.s.ne f⟩
    cases kd with
    | words =>
      tm_at "rzs"
      intro l H3 d3 hl hc
      tm_at "rzs"
      intro p4 H4 f4 s4 g4
      exact fin1 p4 (.words l) H3 H4 (d02.trans d3) f4 s4 ⟨rfl, g4⟩ rfl ⟨by omega, hc⟩
    | picture =>
      tm_at "rzs"
      intro p4 H4 f4 s4 g4
      exact fin1 p4 (.picture ((one : Int) + 1) ((oth : Int) + 1)) H2 H4 d02 f4 s4 ⟨rfl, g4⟩ rfl ⟨by omega, by omega⟩
    | row =>
      tm_at "rzs"
      intro p3 H3 f3 s3 g3
      have n3 : p3 ≠ s := d02.s.ne f3
      have d03 := d02.same s3
      tm_at "rzs"
      intro z4 H4 d4 l4 u4
      obtain ⟨pv, hx, pose, rfl, hpose⟩ := pickL (P := fun v => ∃ ow : String, v = sX ow ∧ ow ∈ stands5) l4 u4 (xs := [sX "start", sX "end", sX "middle", sX "stretch", sX "base"]) (fun y m => by
        simp only [List.mem_cons, List.not_mem_nil, or_false] at m
        rcases m with rfl | rfl | rfl | rfl | rfl <;> exact ⟨_, rfl, by simp [stands5]⟩)
      refine ⟨_, _, _, _, rfl, rfl, sqL (d4.app n3 g3), hx, ?_⟩
      have d04 := d03.trans d4
      dsimp only [gName]
      tm_at "rzs"
      intro p5 H5 f5 s5 g5
      have n5 : p5 ≠ s := d04.s.ne f5
      have d05 := d04.same s5
      tm_at "rzs"
      intro z6 H6 d6 l6 u6
      obtain ⟨wv, hx, pack, rfl, hpack⟩ := pickL (P := fun v => ∃ ow : String, v = sX ow ∧ ow ∈ packs4) l6 u6 (xs := [sX "start", sX "end", sX "middle", sX "between"]) (fun y m => by
        simp only [List.mem_cons, List.not_mem_nil, or_false] at m
        rcases m with rfl | rfl | rfl | rfl <;> exact ⟨_, rfl, by simp [packs4]⟩)
      refine ⟨_, _, _, _, rfl, rfl, sqL (d6.app n5 g5), hx, ?_⟩
      have d06 := d05.trans d6
      dsimp only [gName]
      tm_at "rzs"
      intro z7 H7 d7 l7 u7
      tm_at "rzs"
      intro p8 H8 f8 s8 g8
      exact fin1 p8 (.row (decide (V.int z7 = V.int 1)) one oth pack pose) H7 H8 (d06.trans d7) f8 s8 ⟨rfl, g8⟩ rfl ⟨by omega, by omega, hpack, hpose⟩
    | pile =>
      tm_at "rzs"
      intro p3 H3 f3 s3 g3
      have n3 : p3 ≠ s := d02.s.ne f3
      have d03 := d02.same s3
      tm_at "rzs"
      intro z4 H4 d4 l4 u4
      obtain ⟨pv, hx, pose, rfl, hpose⟩ := pickL (P := fun v => ∃ ow : String, v = sX ow ∧ ow ∈ stands5) l4 u4 (xs := [sX "start", sX "end", sX "middle", sX "stretch", sX "base"]) (fun y m => by
        simp only [List.mem_cons, List.not_mem_nil, or_false] at m
        rcases m with rfl | rfl | rfl | rfl | rfl <;> exact ⟨_, rfl, by simp [stands5]⟩)
      refine ⟨_, _, _, _, rfl, rfl, sqL (d4.app n3 g3), hx, ?_⟩
      have d04 := d03.trans d4
      dsimp only [gName]
      tm_at "rzs"
      intro p5 H5 f5 s5 g5
      have n5 : p5 ≠ s := d04.s.ne f5
      have d05 := d04.same s5
      tm_at "rzs"
      intro z6 H6 d6 l6 u6
      obtain ⟨wv, hx, pack, rfl, hpack⟩ := pickL (P := fun v => ∃ ow : String, v = sX ow ∧ ow ∈ packs4) l6 u6 (xs := [sX "start", sX "end", sX "middle", sX "between"]) (fun y m => by
        simp only [List.mem_cons, List.not_mem_nil, or_false] at m
        rcases m with rfl | rfl | rfl | rfl <;> exact ⟨_, rfl, by simp [packs4]⟩)
      refine ⟨_, _, _, _, rfl, rfl, sqL (d6.app n5 g5), hx, ?_⟩
      have d06 := d05.trans d6
      dsimp only [gName]
      tm_at "rzs"
      intro p8 H8 f8 s8 g8
      exact fin1 p8 (.pile one pack pose) H6 H8 d06 f8 s8 ⟨rfl, g8⟩ rfl ⟨by omega, hpack, hpose⟩
    | grid =>
      tm_at "rzs"
      intro p3 H3 f3 s3 g3
      have n3 : p3 ≠ s := d02.s.ne f3
      have d03 := d02.same s3
      tm_at "rzs"
      intro z4 H4 d4 l4 u4
      obtain ⟨pv, hx, pose, rfl, hpose⟩ := pickL (P := fun v => ∃ ow : String, v = sX ow ∧ ow ∈ stands5) l4 u4 (xs := [sX "start", sX "end", sX "middle", sX "stretch", sX "base"]) (fun y m => by
        simp only [List.mem_cons, List.not_mem_nil, or_false] at m
        rcases m with rfl | rfl | rfl | rfl | rfl <;> exact ⟨_, rfl, by simp [stands5]⟩)
      refine ⟨_, _, _, _, rfl, rfl, sqL (d4.app n3 g3), hx, ?_⟩
      have d04 := d03.trans d4
      dsimp only [gName]
      tm_at "rzs"
      intro p5 H5 f5 s5 g5
      have n5 : p5 ≠ s := d04.s.ne f5
      have d05 := d04.same s5
      tm_at "rzs"
      intro z6 H6 d6 l6 u6
      obtain ⟨wv, hx, pack, rfl, hpack⟩ := pickL (P := fun v => ∃ ow : String, v = sX ow ∧ ow ∈ packs4) l6 u6 (xs := [sX "start", sX "end", sX "middle", sX "between"]) (fun y m => by
        simp only [List.mem_cons, List.not_mem_nil, or_false] at m
        rcases m with rfl | rfl | rfl | rfl <;> exact ⟨_, rfl, by simp [packs4]⟩)
      refine ⟨_, _, _, _, rfl, rfl, sqL (d6.app n5 g5), hx, ?_⟩
      have d06 := d05.trans d6
      dsimp only [gName]
      have kkT : ∀ {D : Addr} (i : Nat) (v : V) (Ha Hb : Hp) (acc : List V), (∃ t, TkAt Ha v t ∧ t.ok) → Ha D = some (.lst acc) → But D Ha Hb → ∃ t, TkAt Hb v t ∧ t.ok := fun i v Ha Hb acc ⟨t, e, o⟩ g b => ⟨t, e.but g b, o⟩
      have ksT : ∀ (i : Nat) (v : V) (Ha Hb : Hp), (∃ t, TkAt Ha v t ∧ t.ok) → Src Ha s → Dr s Ha Hb → ∃ t, TkAt Hb v t ∧ t.ok := fun i v Ha Hb ⟨t, e, o⟩ hsa d => ⟨t, e.dr hsa d, o⟩
      tm_at "rzs"
      intro z7 H7 d7 l7 u7
      have d07 := d06.trans d7
      tm_at "rzs"
      obtain ⟨N, hN, hN1⟩ : ∃ N : Nat, ((1 + z7 : Int)).toNat = N ∧ (N : Int) = 1 + z7 := ⟨_, rfl, by omega⟩
      rw [hN]
      refine fun D hD => lcRo (n := N) (s := s) (fun i v H => ∃ t, TkAt H v t ∧ t.ok) kkT ksT d07.s hD (by omega) (fun i H' Kt Kf acc hi dp hacc kk => ?_) (fun us1 H8 d8 hul1 hub1 nD1 gD1 => ?_)
      · tm_at "rzs"
        intro v t H4 d4 ht ot
        exact kk v H4 d4 ⟨t, ht, ot⟩
      have d08 := d07.trans d8
      have fD : H D = none := d07.free hD nD1
      dsimp only [gName]
      tm_at "rzs"
      intro z9 H9 d9 l9 u9
      have d09 := d08.trans d9
      tm_at "rzs"
      obtain ⟨R, hR, hR1⟩ : ∃ R : Nat, ((1 + z9 : Int)).toNat = R ∧ (R : Int) = 1 + z9 := ⟨_, rfl, by omega⟩
      rw [hR]
      refine fun D2 hD2 => lcRo (n := R) (s := s) (fun i v H => ∃ t, TkAt H v t ∧ t.ok) kkT ksT d09.s hD2 (by omega) (fun i H' Kt Kf acc hi dp hacc kk => ?_) (fun us2 H10 d10 hul2 hub2 nD2 gD2 => ?_)
      · tm_at "rzs"
        intro v t H4 d4 ht ot
        exact kk v H4 d4 ⟨t, ht, ot⟩
      have d010 := d09.trans d10
      have fD2 : H D2 = none := d09.free hD2 nD2
      dsimp only [gName]
      tm_at "rzs"
      intro p11 H11 f11 s11 g11
      tm_at "rzs"
      intro p12 H12 f12 s12 g12
      have s1012 := s11.trans s12
      have gD1' := d10.app nD1 (d9.app nD1 gD1)
      obtain ⟨ts, lts, hts⟩ := pick_list (P := fun v t => TkAt H12 v t ∧ t.ok) us1 (fun i v e => let ⟨t, h, o⟩ := hub1 i v e; ⟨t, ((h.dr d08.s d9).dr d09.s d10).mono s1012, o⟩)
      obtain ⟨rs, lrs, hrs⟩ := pick_list (P := fun v t => TkAt H12 v t ∧ t.ok) us2 (fun i v e => let ⟨t, h, o⟩ := hub2 i v e; ⟨t, h.mono s1012, o⟩)
      have okT : ∀ {us : List V} {ts : List Tk}, us.length = ts.length → (∀ (i : Nat) (v : V) (t : Tk), us[i]? = some v → ts[i]? = some t → TkAt H12 v t ∧ t.ok) → ∀ t ∈ ts, t.ok := fun {us ts} l h t mt => by
        obtain ⟨i, hi, e⟩ := List.getElem_of_mem mt
        exact (h i (us[i]'(by omega)) t (List.getElem?_eq_getElem (by omega)) (by rw [List.getElem?_eq_getElem hi, e])).2
      have d011 := d010.same s11
      have n11 := d010.s.ne f11
      have n12 := d011.s.ne f12
      have f11H := d010.free f11 n11
      have f12H := d011.free f12 n12
      have nD12 : D2 ≠ D := fun e => by
        have h9 := d9.app nD1 gD1
        rw [e, h9] at hD2
        cases hD2
      refine k p12 [p11, D, D2] (.grid [] ts rs one oth pose) H12 (d011.same s12) ⟨p11, D, D2, [], us1, us2, rfl, g12, s12 _ _ g11, ⟨rfl, fun i v q a => by cases a⟩, s1012 _ _ gD1', ⟨lts, fun i v t e1 e2 => (hts i v t e1 e2).1⟩, s1012 _ _ gD2, ⟨lrs, fun i v t e1 e2 => (hrs i v t e1 e2).1⟩⟩ rfl
        ⟨rfl, okT lts hts, (fun z => by rw [z] at lts; change _ = 0 at lts; omega), by omega, okT lrs hrs, (fun z => by rw [z] at lrs; change _ = 0 at lrs; omega), by omega, by omega, by omega, hpose⟩ ?_ fun a m => ?_
      · have e1 : p12 ≠ p11 := (ne_of_none g11 f12).symm
        have e2 : p12 ≠ D := (ne_of_none (s11 _ _ gD1') f12).symm
        have e3 : p12 ≠ D2 := (ne_of_none (s11 _ _ gD2) f12).symm
        have e4 : p11 ≠ D := (ne_of_none gD1' f11).symm
        have e5 : p11 ≠ D2 := (ne_of_none gD2 f11).symm
        simp [e1, e2, e3, e4, e5, nD12.symm]
      · simp only [List.mem_cons, List.not_mem_nil, or_false] at m
        rcases m with rfl | rfl | rfl | rfl
        · exact ⟨f12H, n12⟩
        · exact ⟨f11H, n11⟩
        · exact ⟨fD, nD1⟩
        · exact ⟨fD2, nD2⟩
end
end My
namespace My
open PySem PySem.Spec PyProof.Rows L2
section
variable {P : Program} {w : World} {K : PySem.W.Frag} {mg : Str → Option Value} {base : Heap}
def sp_w_box (K : PySem.W.Frag) : Sp := fun vs H Q _ => ∃ (s kn : Addr) (ls : List (List Nat)), vs = [.ref s, .ref kn] ∧ Src H s ∧ kn ≠ s ∧ H kn = some (.dK (knD ls)) ∧ ls.length ≤ 100 ∧
  ∀ (n : Nd) (r : Addr) H', Src H' s → ButK s kn H H' → NdAt H' n [] → n.as.Nodup → (∀ a ∈ n.as, H a = none ∧ a ≠ s ∧ a ≠ kn) → H' kn = some (.dK (knD (ls ++ [n.nm]))) → n.nm ∉ ls → NameOk n.nm → OwnB n.ow → n.st = st0 r → H' r = some (.tup [.int 0, .int 0, .int 0, .int 0]) → Q (.ref n.b) H'
theorem ok_w_box (T : Tx w K mg) : FnOk P w K mg base CX0 6 T.d_w_box.f T.d_w_box.fd ["_law_source_here", "_law_known"] (sp_w_box K) := by
  refine T.d_w_box.F.ok sc_w_box (fun vs H Q E h => ?_) (fun cdv A outer s H vs Q E hr h => ?_)
  · obtain ⟨s, kn, ls, rfl, _⟩ := h
    rfl
  · obtain ⟨s, kn, ls, rfl, hs, nk, hk, hl, k⟩ := h
    refine ⟨_, (pss_cons (ps_set (i := 2) sc_w_box.nd rfl (Or.inl rfl) (pe_ix (ix_listK (K := K) rfl) (pe_lstA (pa_cons pe_str (pa_cons pe_str (pa_cons pe_str (pa_cons pe_str (pa_cons pe_str (pa_cons pe_str (pa_cons pe_str (pa_cons pe_str pa_nil))))))))) (pe_call (ok_w_next T) (hr.mono (by decide)) (by rfl) T.d_w_next.g T.d_w_next.F.kp T.d_w_next.b .nil pass0 (pa_cons (pv 0) (pa_cons pe_int pa_nil))) (fun _ _ => rfl)))
      (pss_cons (ps_set (i := 3) sc_w_box.nd rfl (Or.inl rfl) (pe_call (ok_w_name T) (hr.mono (by decide)) (by rfl) T.d_w_name.g T.d_w_name.F.kp T.d_w_name.b .nil pass0 (pa_cons (pv 0) (pa_cons (pv 1) pa_nil))))
      (pss_cons (ps_dput (hu_of hr) (pv 1) (pv 3) pe_bl rfl)
      (pss_one (ps_ret (pe_lstA (pa_cons (pv 2) (pa_cons (pv 3) (pa_cons (pe_lstA (pa_cons pe_non (pa_cons pe_non (pa_cons pe_non (pa_cons pe_non (pa_cons pe_non (pa_cons pe_non (pa_cons pe_int (pa_cons pe_int (pa_cons (pe_tupA (pa_cons pe_int (pa_cons pe_int (pa_cons pe_int (pa_cons pe_int pa_nil))))) (pa_cons pe_non pa_nil))))))))))) (pa_cons (pe_call (ok_w_own T) (hr.mono (by decide)) (by rfl) T.d_w_own.g T.d_w_own.F.kp T.d_w_own.b .nil pass0 (pa_cons (pv 0) (pa_cons (pv 2) pa_nil))) (pa_cons (pe_lstA pa_nil) pa_nil))))))))))), ?_⟩
    tm_at "rzs"
    intro p1 H1 f1 s1 g1
    have n1 : p1 ≠ s := hs.ne f1
    tm_at "rzs"
    intro z2 H2 d2 l2 u2
    obtain ⟨kv, hx, kd, rfl⟩ := pickL (P := fun v => ∃ kd : Kd, v = sX (kdW kd)) l2 u2 (xs := [sX "words", sX "picture", sX "row", sX "pile", sX "grid", sX "row", sX "pile", sX "grid"]) (fun y m => by
      simp only [List.mem_cons, List.not_mem_nil, or_false] at m
      rcases m with rfl | rfl | rfl | rfl | rfl | rfl | rfl | rfl
      · exact ⟨.words, rfl⟩
      · exact ⟨.picture, rfl⟩
      · exact ⟨.row, rfl⟩
      · exact ⟨.pile, rfl⟩
      · exact ⟨.grid, rfl⟩
      · exact ⟨.row, rfl⟩
      · exact ⟨.pile, rfl⟩
      · exact ⟨.grid, rfl⟩)
    refine ⟨_, _, _, _, rfl, rfl, sqL (d2.app n1 g1), hx, ?_⟩
    have d02 : Dr s H H2 := (Dr.of hs s1).trans d2
    dsimp only [gName]
    have hk2 := d02.app nk hk
    tm_at "rzs"
    refine ⟨s, kn, ls, rfl, d02.s, nk, hk2, by omega, fun l H3 d3 lok nin => ?_⟩
    have d03 := d02.trans d3
    have hk3 := d03.app nk hk
    dsimp only [gName]
    tm_at "rzs"
    refine ⟨kn, _, rfl, DPut.k (k := keyS l) hk3 (by unfold knD; rw [List.length_map]; exact small1000' (by omega)), ?_⟩
    rw [knD_put nin]
    have g4 : (upd H3 kn (.dK (knD (ls ++ [l])))) kn = some (.dK (knD (ls ++ [l]))) := upd_same
    have b4 : But kn H3 (upd H3 kn (.dK (knD (ls ++ [l])))) := But.refl.upd
    have hs4 : Src (upd H3 kn (.dK (knD (ls ++ [l])))) s := d03.s.but b4 nk.symm
    generalize upd H3 kn (.dK (knD (ls ++ [l]))) = H4 at g4 b4 hs4
    have r04 : ButK s kn H H4 := (ButK.of d03).but b4
    tm_at "rzs"
    intro r H5 f5 s5 g5
    tm_at "rzs"
    intro v H6 f6 s6 g6
    have s46 := s5.trans s6
    have hs6 := hs4.same s46
    tm_at "rzs"
    intro o cs w H7 d7 ow ekd bw nd fr
    tm_at "rzs"
    intro ii H8 f8 s8 g8
    tm_at "rzs"
    intro b H9 f9 s9 g9
    have s79 := s8.trans s9
    have r06 := r04.same s46
    have r07 := r06.dr d7
    have r09 := r07.same s79
    have nr : r ≠ s := hs4.ne f5
    have nv : v ≠ s := (hs4.same s5).ne f6
    have ni : ii ≠ s := d7.s.ne f8
    have nb : b ≠ s := (d7.s.same s8).ne f9
    have gk7 : H7 kn = some (.dK (knD (ls ++ [l]))) := d7.app nk (s46 _ _ g4)
    have gr7 := d7.app nr (s6 _ _ g5)
    have gv7 := d7.app nv g6
    have subst_kd := ekd
    have nkr : ∀ {a : Addr} {Hx : Hp}, Hx a = none → Hx kn ≠ none → a ≠ kn := fun f g e => g (e ▸ f)
    have kv : v ≠ kn := nkr f6 (by rw [s5 _ _ g4]; simp)
    have ki : ii ≠ kn := nkr f8 (by rw [gk7]; simp)
    have kb : b ≠ kn := nkr f9 (by rw [s8 _ _ gk7]; simp)
    have e1 : b ≠ v := (ne_of_none (s8 _ _ gv7) f9).symm
    have e2 : b ≠ ii := (ne_of_none g8 f9).symm
    have e3 : ii ≠ v := (ne_of_none gv7 f8).symm
    have old : ∀ a ∈ o :: cs, H7 a ≠ none := fun a m => by
      cases w with
      | words t =>
        obtain ⟨rfl, g⟩ := ow
        rw [List.mem_singleton.mp m, g]; simp
      | picture x y =>
        obtain ⟨rfl, g⟩ := ow
        rw [List.mem_singleton.mp m, g]; simp
      | row x1 x2 x3 x4 x5 =>
        obtain ⟨rfl, g⟩ := ow
        rw [List.mem_singleton.mp m, g]; simp
      | pile x1 x2 x3 =>
        obtain ⟨rfl, g⟩ := ow
        rw [List.mem_singleton.mp m, g]; simp
      | grid sp ts us g l st =>
        obtain ⟨c, t, u, ws, xs, ys, rfl, h1, h2, h3, h4, h5, h6, h7⟩ := ow
        simp only [List.mem_cons, List.not_mem_nil, or_false] at m
        rcases m with rfl | rfl | rfl | rfl
        · rw [h1]; simp
        · rw [h2]; simp
        · rw [h4]; simp
        · rw [h6]; simp
    have nbo : ∀ a ∈ o :: cs, b ≠ a := fun a m e => by
      cases h : H7 a with
      | none => exact old a m h
      | some x => rw [e, s8 _ _ h] at f9; cases f9
    have nio : ∀ a ∈ o :: cs, ii ≠ a := fun a m e => by
      cases h : H7 a with
      | none => exact old a m h
      | some x => rw [e, h] at f8; cases f8
    have nvo : ∀ a ∈ o :: cs, v ≠ a := fun a m e => by
      have := (fr a m).1
      rw [← e, g6] at this
      cases this
    have nko : ∀ a ∈ o :: cs, a ≠ kn := fun a m => nkr (fr a m).1 (by rw [s46 _ _ g4]; simp)
    refine k ⟨b, v, o, ii, cs, l, st0 r, w⟩ r H9 (d7.s.same s79) r09 ⟨?_, s79 _ _ gv7, ow.mv (Same.ks s79) fun a _ xs g => s79 _ _ g, s9 _ _ g8⟩ ?_ ?_ (s79 _ _ gk7) nin lok bw rfl (s79 _ _ gr7)
    · show H9 b = some (.lst [sX (kdW w.kd), .str (sO l), .ref v, .ref o, .ref ii])
      rw [ekd]
      exact g9
    · show (b :: v :: o :: ii :: cs).Nodup
      rw [List.nodup_cons] at nd
      have hio : ii ≠ o := nio o List.mem_cons_self
      have hvo : v ≠ o := nvo o List.mem_cons_self
      have hbo : b ≠ o := nbo o List.mem_cons_self
      simp only [List.nodup_cons, List.mem_cons, not_or]
      exact ⟨⟨e1, hbo, e2, fun m => nbo b (List.mem_cons_of_mem _ m) rfl⟩, ⟨hvo, e3.symm, fun m => nvo v (List.mem_cons_of_mem _ m) rfl⟩, ⟨hio.symm, nd.1⟩, fun m => nio ii (List.mem_cons_of_mem _ m) rfl, nd.2⟩
    · intro a m
      have m : a = b ∨ a = v ∨ a = o ∨ a = ii ∨ a ∈ cs := by simpa [Nd.as] using m
      have hold : ∀ a ∈ o :: cs, H a = none ∧ a ≠ s ∧ a ≠ kn := fun a m => ⟨r06.free (fr a m).1 (fr a m).2 (nko a m), (fr a m).2, nko a m⟩
      rcases m with rfl | rfl | rfl | rfl | m
      · exact ⟨(r07.same s8).free f9 nb kb, nb, kb⟩
      · exact ⟨(r04.same s5).free f6 nv kv, nv, kv⟩
      · exact hold _ List.mem_cons_self
      · exact ⟨r07.free f8 ni ki, ni, ki⟩
      · exact hold _ (List.mem_cons_of_mem _ m)
end
end My
namespace My
open PySem PySem.Spec PyProof.Rows L2
section
variable {P : Program} {w : World} {K : PySem.W.Frag} {mg : Str → Option Value} {base : Heap}
def sp_w_meet : Sp := fun vs H Q _ => ∃ (u v : V) (p q : Q4), vs = [u, v] ∧ SpAt H u p ∧ SpAt H v q ∧ Q (.bl (meetB p q)) H
theorem ok_w_meet (T : Tx w K mg) : FnOk P w K mg base CX0 1 T.d_w_meet.f T.d_w_meet.fd ["_law_one", "_law_other"] (sp_w_meet) := by
  refine T.d_w_meet.F.ok sc_w_meet (fun vs H Q E h => ?_) (fun cdv A outer s H vs Q E hr h => ?_)
  · obtain ⟨u, v, p, q, rfl, _⟩ := h
    rfl
  · obtain ⟨u, v, p, q, rfl, ⟨a, rfl, ga⟩, ⟨b, rfl, gb⟩, k⟩ := h
    refine ⟨_, (pss_cons (ps_set (i := 2) sc_w_meet.nd rfl (Or.inl rfl) (pe_and (pe_cmpR op_lt (pe_ix (ix_tupK (K := K) rfl) (pv 0) pe_int (fun _ _ => rfl)) (pe_op op_add (pe_ix (ix_tupK (K := K) rfl) (pv 1) pe_int (fun _ _ => rfl)) (pe_ix (ix_tupK (K := K) rfl) (pv 1) pe_int (fun _ _ => rfl))) (nomark _)) (pe_one (pe_cmpR op_lt (pe_ix (ix_tupK (K := K) rfl) (pv 1) pe_int (fun _ _ => rfl)) (pe_op op_add (pe_ix (ix_tupK (K := K) rfl) (pv 0) pe_int (fun _ _ => rfl)) (pe_ix (ix_tupK (K := K) rfl) (pv 0) pe_int (fun _ _ => rfl))) (nomark _)))))
      (pss_one (ps_ret (pe_and (pv 2) (pe_and (pe_cmpR op_lt (pe_ix (ix_tupK (K := K) rfl) (pv 0) pe_int (fun _ _ => rfl)) (pe_op op_add (pe_ix (ix_tupK (K := K) rfl) (pv 1) pe_int (fun _ _ => rfl)) (pe_ix (ix_tupK (K := K) rfl) (pv 1) pe_int (fun _ _ => rfl))) (nomark _)) (pe_one (pe_cmpR op_lt (pe_ix (ix_tupK (K := K) rfl) (pv 1) pe_int (fun _ _ => rfl)) (pe_op op_add (pe_ix (ix_tupK (K := K) rfl) (pv 0) pe_int (fun _ _ => rfl)) (pe_ix (ix_tupK (K := K) rfl) (pv 0) pe_int (fun _ _ => rfl))) (nomark _)))))))), ?_⟩
    tm_at "rzs"
    have fin : ∀ c : Bool, meetB p q = c → Q (.bl c) H := fun c e => e ▸ k
    cases h1 : decide (p.1 < q.1 + q.2.2.1) with
    | false =>
      have e1 : meetB p q = false := by unfold meetB; rw [h1]; rfl
      refine iteF' (by decide) ?_
      tm_at "rzs"
      exact fin _ e1
    | true =>
      refine iteT' (by rfl) ?_
      tm_at "rzs"
      cases h2 : decide (q.1 < p.1 + p.2.2.1) with
      | false =>
        have e1 : meetB p q = false := by unfold meetB; rw [h1, h2]; rfl
        refine iteF' (by decide) ?_
        exact fin _ e1
      | true =>
        refine iteT' (by rfl) ?_
        tm_at "rzs"
        cases h3 : decide (p.2.1 < q.2.1 + q.2.2.2) with
        | false =>
          have e1 : meetB p q = false := by unfold meetB; rw [h1, h2, h3]; rfl
          refine iteF' (by decide) ?_
          exact fin _ e1
        | true =>
          refine iteT' (by rfl) ?_
          tm_at "rzs"
          refine fin _ ?_
          unfold meetB
          rw [h1, h2, h3]
          rfl
end
end My
namespace My
open PySem PySem.Spec PyProof.Rows L2
section
variable {P : Program} {w : World} {K : PySem.W.Frag} {mg : Str → Option Value} {base : Heap}
def sp_w_spot (K : PySem.W.Frag) : Sp := fun vs H Q _ => ∃ (s b : Addr) (n : Nd) (ks : List Addr) (sp : List Q4) (ts us : List Tk) (g l : Int) (st : String), vs = [.ref s, .ref n.b] ∧ Src H s ∧ NdAt H n ks ∧ n.ow = .grid sp ts us g l st ∧ (∀ a ∈ n.as, a ≠ s) ∧ sp.length ≤ 100 ∧ 1 ≤ ts.length ∧ ts.length ≤ 3 ∧ 1 ≤ us.length ∧ us.length ≤ 3 ∧
  (∀ H', Dr s H H' → Q .non H') ∧ ∀ (p : Addr) (q : Q4) H', Dr s H H' → H' p = some (.tup [.int q.1, .int q.2.1, .int q.2.2.1, .int q.2.2.2]) → InTr ts.length us.length q → (∀ z ∈ sp, meetB q z = false) → Q (.ref p) H'
theorem ok_w_spot (T : Tx w K mg) : FnOk P w K mg base CX0 3 T.d_w_spot.f T.d_w_spot.fd ["_law_source_here", "_law_grid"] (sp_w_spot K) := by
  refine T.d_w_spot.F.ok sc_w_spot (fun vs H Q E h => ?_) (fun cdv A outer s H vs Q E hr h => ?_)
  · obtain ⟨s, b, n, ks, sp, ts, us, g, l, st, rfl, _⟩ := h
    rfl
  · obtain ⟨s, b, n, ks, sp, ts, us, g, l, st, rfl, hs, hn, how, hne, lsp, t1, t3, u1, u3, kN, kS⟩ := h
    obtain ⟨hb, hv, ho, hi⟩ := hn
    rw [how] at ho hb
    obtain ⟨c, t, u, ws, xs, ys, ecs, h1, h2, h3, h4, h5, h6, h7⟩ := ho
    refine ⟨_, (pss_cons (ps_asg (pe_slice (sl_listK (K := K) rfl) (pe_ix (ix_listK (K := K) rfl) (pv 1) pe_int (fun _ _ => rfl)) po_none (po_some pe_int)) (pg_unl (by rfl) (pgs_cons (pg_name (i := 2) sc_w_spot.nd rfl (Or.inl rfl)) (pgs_cons (pg_name (i := 3) sc_w_spot.nd rfl (Or.inl rfl)) (pgs_cons (pg_name (i := 4) sc_w_spot.nd rfl (Or.inl rfl)) pgs_nil)))))
      (pss_cons (ps_set (i := 5) sc_w_spot.nd rfl (Or.inl rfl) (pe_lstA pa_nil))
      (pss_cons (ps_for PassesOwn.never (by rfl) (pi_range1 (by rfl) T.b_range (pa_cons (pe_callB (call_lenK (K := K) rfl) (by rfl) T.b_len (by decide +kernel) (pa_cons (pv 3) pa_nil)) pa_nil)) (pg_name (i := 6) sc_w_spot.nd rfl (Or.inr rfl))
      (pss_one (ps_for PassesOwn.never (by rfl) (pi_range1 (by rfl) T.b_range (pa_cons (pe_callB (call_lenK (K := K) rfl) (by rfl) T.b_len (by decide +kernel) (pa_cons (pv 4) pa_nil)) pa_nil)) (pg_name (i := 7) sc_w_spot.nd rfl (Or.inr rfl))
      (pss_one (ps_if (pt_not (pt_val (pe_callB (cr_anyK (K := K) rfl rfl) (by rfl) T.b_any (by decide +kernel) (pa_cons (pe_lc (own := [("_law_plot", 11)]) (g := gName 11) (by rfl) sc_w_spot.nd (pi_listK (K := K) rfl (pv 2)) (blkOk_by (own := [("_law_plot", 11)]) (N := N_w_spot) (sc := defScope s_w_spot) (by decide +kernel)) (fun _ _ _ _ _ => (pg_name (i := 11) sc_w_spot.nd rfl (Or.inl rfl))) (fun _ _ _ _ _ => pts_nil) (fun _ _ _ _ _ => (pe_call (ok_w_meet T) (hr.mono (by decide)) (by rfl) T.d_w_meet.g T.d_w_meet.F.kp T.d_w_meet.b .nil pass0 (pa_cons (pe_tupA (pa_cons (pv 6) (pa_cons (pv 7) (pa_cons pe_int (pa_cons pe_int pa_nil))))) (pa_cons (pv 11) pa_nil))))) pa_nil))))
      (pss_one (ps_expr (pe_bm PySem.F.plainAttrs_list PySem.F.slot_list_append PySem.F.type_list_append mt_appendA (pv 5) (pa_cons (pe_tupA (pa_cons (pv 6) (pa_cons (pv 7) (pa_cons pe_int (pa_cons pe_int pa_nil))))) pa_nil))))
      pss_nil)))))
      (pss_cons (ps_if (pt_cmpR (op_eq0K (K := K) hr.units rfl) (pv 5) (pe_lstA pa_nil) (nomark _))
      (pss_one (ps_ret pe_non))
      pss_nil)
      (pss_cons (ps_asg (pe_ix (ix_listK (K := K) rfl) (pv 5) (pe_call (ok_w_next T) (hr.mono (by decide)) (by rfl) T.d_w_next.g T.d_w_next.F.kp T.d_w_next.b .nil pass0 (pa_cons (pv 0) (pa_cons (pe_callB (call_lenK (K := K) rfl) (by rfl) T.b_len (by decide +kernel) (pa_cons (pv 5) pa_nil)) pa_nil))) (fun _ _ => rfl)) (pg_tup (by rfl) (pgs_cons (pg_name (i := 6) sc_w_spot.nd rfl (Or.inr rfl)) (pgs_cons (pg_name (i := 7) sc_w_spot.nd rfl (Or.inr rfl)) (pgs_cons (pg_name (i := 8) sc_w_spot.nd rfl (Or.inl rfl)) (pgs_cons (pg_name (i := 9) sc_w_spot.nd rfl (Or.inl rfl)) pgs_nil))))))
      (pss_cons (ps_set (i := 10) sc_w_spot.nd rfl (Or.inr rfl) (pe_tupA (pa_cons (pv 6) (pa_cons (pv 7) (pa_cons (pe_op op_add pe_int (pe_call (ok_w_next T) (hr.mono (by decide)) (by rfl) T.d_w_next.g T.d_w_next.F.kp T.d_w_next.b .nil pass0 (pa_cons (pv 0) (pa_cons (pe_op op_sub (pe_callB (call_lenK (K := K) rfl) (by rfl) T.b_len (by decide +kernel) (pa_cons (pv 3) pa_nil)) (pv 6)) pa_nil)))) (pa_cons (pe_op op_add pe_int (pe_call (ok_w_next T) (hr.mono (by decide)) (by rfl) T.d_w_next.g T.d_w_next.F.kp T.d_w_next.b .nil pass0 (pa_cons (pv 0) (pa_cons (pe_op op_sub (pe_callB (call_lenK (K := K) rfl) (by rfl) T.b_len (by decide +kernel) (pa_cons (pv 4) pa_nil)) (pv 7)) pa_nil)))) pa_nil))))))
      (pss_cons (ps_if (pt_val (pe_callB (cr_anyK (K := K) rfl rfl) (by rfl) T.b_any (by decide +kernel) (pa_cons (pe_lc (own := [("_law_plot", 11)]) (g := gName 11) (by rfl) sc_w_spot.nd (pi_listK (K := K) rfl (pv 2)) (blkOk_by (own := [("_law_plot", 11)]) (N := N_w_spot) (sc := defScope s_w_spot) (by decide +kernel)) (fun _ _ _ _ _ => (pg_name (i := 11) sc_w_spot.nd rfl (Or.inl rfl))) (fun _ _ _ _ _ => pts_nil) (fun _ _ _ _ _ => (pe_call (ok_w_meet T) (hr.mono (by decide)) (by rfl) T.d_w_meet.g T.d_w_meet.F.kp T.d_w_meet.b .nil pass0 (pa_cons (pv 10) (pa_cons (pv 11) pa_nil))))) pa_nil)))
      (pss_one (ps_ret (pe_tupA (pa_cons (pv 6) (pa_cons (pv 7) (pa_cons pe_int (pa_cons pe_int pa_nil)))))))
      pss_nil)
      (pss_one (ps_ret (pv 10)))))))))), ?_⟩
    have ns : n.o ≠ s ∧ c ≠ s ∧ t ≠ s ∧ u ≠ s := by
      refine ⟨hne _ (by simp [Nd.as]), hne _ (by simp [Nd.as, ecs]), hne _ (by simp [Nd.as, ecs]), hne _ (by simp [Nd.as, ecs])⟩
    tm_at "rzs"
    refine ⟨n.o, _, rfl, sqL h1, ?_⟩
    rw [show (some (3 : Int)) = some ((3 : Nat) : Int) from rfl, cutV_take]
    intro p1 H1 f1 s1 g1
    refine ⟨p1, _, rfl, sqL g1, rfl, ?_⟩
    tm_at "rzs"
    intro pF HF fF sF gF
    have s0F := s1.trans sF
    have fF0 : H pF = none := s1.free fF
    dsimp only [gName]
    have hx := s0F _ _ h4
    have hy := s0F _ _ h6
    tm_at "rzs"
    have lx : xs.length = ts.length := h5.1
    have ly : ys.length = us.length := h7.1
    refine ⟨by omega, ?_⟩
    rw [show ((xs.length : Int)).toNat = xs.length from Int.toNat_natCast _]
    refine for_range (lo := 0) (n := xs.length) (fun i σ H' => ∃ (fs : List V) (qs : List Q4) (v6 v7 v8 v9 v10 v11 : Option V), σ = [some (.ref s), some (.ref n.b), some (.ref c), some (.ref t), some (.ref u), some (.ref pF), v6, v7, v8, v9, v10, v11] ∧ Same H H' ∧ H' pF = some (.lst fs) ∧ SpsAt H' fs qs ∧ fs.length ≤ 3 * i ∧ ∀ q ∈ qs, q.2.2 = (1, 1) ∧ InTr ts.length us.length q ∧ ∀ z ∈ sp, meetB q z = false)
      ⟨[], [], _, _, _, _, _, _, rfl, s0F, gF, ⟨rfl, fun i v q a => by cases a⟩, Nat.zero_le _, fun q m => by cases m⟩ ?_ ?_
    · rintro i σ H2 hi ⟨fs, qs, v6, v7, v8, v9, v10, v11, rfl, s2, g2, hq2, lf2, ok2⟩
      have hy2 := s2 _ _ h6
      dsimp only [gName]
      tm_at "rzs"
      rw [show ((ys.length : Int)).toNat = ys.length from Int.toNat_natCast _]
      refine for_range (lo := 0) (n := ys.length) (fun j σ H' => ∃ (fs : List V) (qs : List Q4) (v7 v8 v9 v10 v11 : Option V), σ = [some (.ref s), some (.ref n.b), some (.ref c), some (.ref t), some (.ref u), some (.ref pF), some (.int (0 + (i : Int))), v7, v8, v9, v10, v11] ∧ Same H H' ∧ H' pF = some (.lst fs) ∧ SpsAt H' fs qs ∧ fs.length ≤ 3 * i + j ∧ ∀ q ∈ qs, q.2.2 = (1, 1) ∧ InTr ts.length us.length q ∧ ∀ z ∈ sp, meetB q z = false)
        ⟨fs, qs, _, _, _, _, _, rfl, s2, g2, hq2, lf2, ok2⟩ ?_ ?_
      · rintro j σ H3 hj ⟨fs, qs, v7, v8, v9, v10, v11, rfl, s3, g3, hq3, lf3, ok3⟩
        have hc3 := s3 _ _ h2
        dsimp only [gName]
        tm_at "rzs"
        refine ⟨⟨_, sqL hc3⟩, fun D hD => lcLx (K := K) (xs := ws) (fun e => V.bl (meetB (((i : Int), (j : Int), 1, 1) : Q4) (sp.getD e (0, 0, 0, 0)))) hD (sqL hc3) (by rw [h3.1]; omega) (fun e v H4 Kt Kf hv s4 kt => ?_) (fun H4 s4 g4 => ?_)⟩
        · have he : e < sp.length := by rw [← h3.1]; exact (List.getElem?_eq_some_iff.mp hv).1
          have hz := h3.2 e v _ hv (List.getElem?_eq_getElem he)
          have ed : sp.getD e (0, 0, 0, 0) = sp[e] := by rw [List.getD_eq_getElem?_getD, List.getElem?_eq_getElem he]; rfl
          rw [ed] at kt
          tm_at "rzs"
          intro pt Hp fp sp' gp
          rw [Int.zero_add, Int.zero_add] at gp
          obtain ⟨pz, rfl, gz⟩ := hz
          tm_at "rzs"
          refine ⟨.ref pt, .ref pz, ((i : Int), (j : Int), 1, 1), sp[e], rfl, ⟨pt, rfl, gp⟩, ⟨pz, rfl, sp' _ _ (s4 _ _ (s3 _ _ gz))⟩, ?_⟩
          exact kt _ sp'
        rw [bls ws.length, h3.1, range_all (meetB (((i : Int), (j : Int), 1, 1) : Q4)) (0, 0, 0, 0) sp] at g4
        tm_at "rzs"
        refine ⟨D, _, rfl, sqL g4, ?_⟩
        rw [meets_any]
        have s04 := s3.trans s4
        have gF4 := s4 _ _ g3
        cases hm : sp.any (meetB (((i : Int), (j : Int), 1, 1) : Q4)) with
        | true =>
          tm_at "rzs"
          exact ⟨fs, qs, _, _, _, _, _, rfl, s04, s4 _ _ g3, (Same.ks s4).sps hq3, by omega, ok3⟩
        | false =>
          tm_at "rzs"
          intro pt Hp fp sp' gp
          rw [Int.zero_add, Int.zero_add] at gp
          have gFp := sp' _ _ (s4 _ _ g3)
          tm_at "rzs"
          refine ⟨_, _, _, rfl, rfl, gFp, by rw [sizeLine_eq]; omega, fun H5 b5 g5 => ?_⟩
          have s05 : Same H H5 := Same.mut' (s04.trans sp') b5 fF0
          have kk5 : KeepS H3 H5 := (Same.ks (s4.trans sp')).butL b5 gFp
          refine ⟨fs ++ [.ref pt], qs ++ [((i : Int), (j : Int), 1, 1)], _, _, _, _, _, rfl, s05, g5, (kk5.sps hq3).app ⟨pt, rfl, tup_but b5 gFp gp⟩, by rw [List.length_append]; show fs.length + 1 ≤ _; omega, fun q m => ?_⟩
          rcases List.mem_append.mp m with m | m
          · exact ok3 q m
          · rw [List.mem_singleton.mp m]
            exact ⟨rfl, ⟨by show (0 : Int) ≤ i; omega, by show (1 : Int) ≤ 1; decide, by show (i : Int) + 1 ≤ _; omega, by show (0 : Int) ≤ j; omega, by show (1 : Int) ≤ 1; decide, by show (j : Int) + 1 ≤ _; omega⟩, meets_none hm⟩
      · rintro σ H3 ⟨fs, qs, v7, v8, v9, v10, v11, rfl, s3, g3, hq3, lf3, ok3⟩
        exact ⟨fs, qs, _, _, _, _, _, _, rfl, s3, g3, hq3, by omega, ok3⟩
    · rintro σ H2 ⟨fs, qs, v6, v7, v8, v9, v10, v11, rfl, s2, g2, hq2, lf2, ok2⟩
      tm_at "rzs"
      intro pe He fe se ge
      have s2e := s2.trans se
      have g2e := se _ _ g2
      refine ⟨pF, pe, fs, rfl, rfl, sqL g2e, sqL ge, ?_⟩
      cases fs with
      | nil =>
        tm_at "rzs"
        exact kN He (Dr.of hs s2e)
      | cons f0 fs =>
        tm_at "rzs"
        refine ⟨by rw [List.length_cons]; omega, by rw [List.length_cons] at lf2 ⊢; omega, fun z7 H7 d7 l7 u7 => ?_⟩
        obtain ⟨j, rfl⟩ := Int.eq_ofNat_of_zero_le l7
        have hj : j < (f0 :: fs).length := by omega
        have hjq : j < qs.length := by rw [← hq2.1]; exact hj
        have d07 : Dr s H H7 := (Dr.of hs s2e).trans d7
        have nFs : pF ≠ s := (hs.same s1).ne fF
        obtain ⟨pq, epq, gq⟩ := hq2.2 j _ _ (List.getElem?_eq_getElem hj) (List.getElem?_eq_getElem hjq)
        obtain ⟨q11, ⟨i1, i2, i3, i4, i5, i6⟩, qap⟩ := ok2 qs[j] (List.getElem_mem hjq)
        generalize qs[j] = q at gq q11 i1 i2 i3 i4 i5 i6 qap
        obtain ⟨qx, qy, qw, qd⟩ := q
        obtain ⟨rfl, rfl⟩ : qw = 1 ∧ qd = 1 := by cases q11; exact ⟨rfl, rfl⟩
        have i1 : 0 ≤ qx := i1
        have i3 : qx + 1 ≤ ts.length := i3
        have i4 : 0 ≤ qy := i4
        have i6 : qy + 1 ≤ us.length := i6
        refine ⟨_, _, _, _, rfl, rfl, sqL (d7.app nFs g2e), atI_nat (j := j) (v := .ref pq) (by rw [← epq]; exact List.getElem?_eq_getElem hj), ?_⟩
        have gq7 : H7 pq = some (.tup [.int qx, .int qy, .int 1, .int 1]) := (d7.ks (hs.same s2e)).tup (se _ _ gq)
        refine ⟨pq, _, rfl, sqT gq7, rfl, ?_⟩
        have hx7 := d07.app ns.2.2.1 h4
        have hy7 := d07.app ns.2.2.2 h6
        have hc7 := d07.app ns.2.1 h2
        tm_at "rzs"
        intro ex H8 d8 l8 u8
        have hy8 := d8.app ns.2.2.2 hy7
        have hc8 := d8.app ns.2.1 hc7
        tm_at "rzs"
        intro ey H9 d9 l9 u9
        have hc9 := d9.app ns.2.1 hc8
        tm_at "rzs"
        intro pt Hp fp sp' gp
        have hcp := sp' _ _ hc9
        have d0p : Dr s H Hp := ((d07.trans d8).trans d9).same sp'
        have kp : KeepS H Hp := d0p.ks hs
        have h3p := kp.sps h3
        dsimp only [gName]
        tm_at "rzs"
        refine ⟨⟨_, sqL hcp⟩, fun D hD => lcLx (K := K) (xs := ws) (fun e => V.bl (meetB ((qx, qy, 1 + ex, 1 + ey) : Q4) (sp.getD e (0, 0, 0, 0)))) hD (sqL hcp) (by rw [h3.1]; omega) (fun e v H4 Kt Kf hv s4 kt => ?_) (fun H4 s4 g4 => ?_)⟩
        · have he : e < sp.length := by rw [← h3.1]; exact (List.getElem?_eq_some_iff.mp hv).1
          have hz := h3p.2 e v _ hv (List.getElem?_eq_getElem he)
          have ed : sp.getD e (0, 0, 0, 0) = sp[e] := by rw [List.getD_eq_getElem?_getD, List.getElem?_eq_getElem he]; rfl
          rw [ed] at kt
          obtain ⟨pz, rfl, gz⟩ := hz
          tm_at "rzs"
          refine ⟨.ref pt, .ref pz, (qx, qy, 1 + ex, 1 + ey), sp[e], rfl, ⟨pt, rfl, s4 _ _ gp⟩, ⟨pz, rfl, s4 _ _ gz⟩, ?_⟩
          exact kt _ (Same.refl _)
        rw [bls ws.length, h3.1, range_all (meetB ((qx, qy, 1 + ex, 1 + ey) : Q4)) (0, 0, 0, 0) sp] at g4
        tm_at "rzs"
        refine ⟨D, _, rfl, sqL g4, ?_⟩
        rw [meets_any]
        have d04 := d0p.same s4
        cases hm : sp.any (meetB ((qx, qy, 1 + ex, 1 + ey) : Q4)) with
        | true =>
          tm_at "rzs"
          intro pr Hr fr sr gr
          exact kS pr (qx, qy, 1, 1) Hr (d04.same sr) gr ⟨i1, i2, i3, i4, i5, i6⟩ qap
        | false =>
          tm_at "rzs"
          exact kS pt (qx, qy, 1 + ex, 1 + ey) H4 d04 (s4 _ _ gp) ⟨i1, by show 1 ≤ 1 + ex; omega, by show qx + (1 + ex) ≤ _; omega, i4, by show 1 ≤ 1 + ey; omega, by show qy + (1 + ey) ≤ _; omega⟩ (meets_none hm)
end
end My
namespace My
open PySem PySem.Spec PyProof.Rows L2
section
variable {P : Program} {w : World} {K : PySem.W.Frag} {mg : Str → Option Value} {base : Heap}
def sp_w_into (K : PySem.W.Frag) : Sp := fun vs H Q _ => ∃ (s x : Addr) (n : Nd) (ks : List Addr), vs = [.ref s, .ref n.b, .ref x] ∧ Src H s ∧ NdAt H n ks ∧ n.as.Nodup ∧ (∀ a ∈ n.as, a ≠ s) ∧ OwnI ks.length n.ow ∧ ks.length ≤ 20 ∧ n.ow.kd ≠ .words ∧ n.ow.kd ≠ .picture ∧
  (∀ H', Dr s H H' → Q (.bl false) H') ∧ ∀ (w : Own) (at_ : Nat) H', at_ ≤ ks.length → Src H' s → KeepS H H' → (∀ a o, H a = some o → a ≠ s → a ∉ n.as → H' a = some o) → NdAt H' { n with ow := w } (putL at_ x ks) → w.kd = n.ow.kd → OwnI (ks.length + 1) w → Q (.bl true) H'
theorem ok_w_into (T : Tx w K mg) : FnOk P w K mg base CX0 4 T.d_w_into.f T.d_w_into.fd ["_law_source_here", "_law_holder", "_law_box_here"] (sp_w_into K) := by
  refine T.d_w_into.F.ok sc_w_into (fun vs H Q E h => ?_) (fun cdv A outer s H vs Q E hr h => ?_)
  · obtain ⟨s, x, n, ks, rfl, _⟩ := h
    rfl
  · obtain ⟨s, x, n, ks, rfl, hs, hn, nd, hne, hw, lk, z1, z2, kF, kT⟩ := h
    have hb := hn.hb
    have hi := hn.hi
    have nb := hne n.b (by simp [Nd.as])
    have ni := hne n.i (by simp [Nd.as])
    refine ⟨_, (pss_cons (ps_set (i := 3) sc_w_into.nd rfl (Or.inl rfl) (pe_call (ok_w_next T) (hr.mono (by decide)) (by rfl) T.d_w_next.g T.d_w_next.F.kp T.d_w_next.b .nil pass0 (pa_cons (pv 0) (pa_cons (pe_op op_add (pe_callB (call_lenK (K := K) rfl) (by rfl) T.b_len (by decide +kernel) (pa_cons (pe_ix (ix_listK (K := K) rfl) (pv 1) pe_int (fun _ _ => rfl)) pa_nil)) pe_int) pa_nil))))
      (pss_cons (ps_if (pt_cmpR op_eq (pe_ix (ix_listK (K := K) rfl) (pv 1) pe_int (fun _ _ => rfl)) pe_str (nomark _))
      (pss_cons (ps_set (i := 4) sc_w_into.nd rfl (Or.inl rfl) (pe_call (ok_w_spot T) (hr.mono (by decide)) (by rfl) T.d_w_spot.g T.d_w_spot.F.kp T.d_w_spot.b .nil pass0 (pa_cons (pv 0) (pa_cons (pv 1) pa_nil))))
      (pss_cons (ps_if (pt_cmpR op_isN (pv 4) pe_non (nomark _))
      (pss_one (ps_ret pe_bl))
      pss_nil)
      (pss_one (ps_expr (pe_bm PySem.F.plainAttrs_list PySem.F.slot_list_insert PySem.F.type_list_insert mt_insert (pe_ix (ix_listK (K := K) rfl) (pe_ix (ix_listK (K := K) rfl) (pv 1) pe_int (fun _ _ => rfl)) pe_int (fun _ _ => rfl)) (pa_cons (pv 3) (pa_cons (pv 4) pa_nil)))))))
      pss_nil)
      (pss_cons (ps_expr (pe_bm PySem.F.plainAttrs_list PySem.F.slot_list_insert PySem.F.type_list_insert mt_insert (pe_ix (ix_listK (K := K) rfl) (pv 1) pe_int (fun _ _ => rfl)) (pa_cons (pv 3) (pa_cons (pv 2) pa_nil))))
      (pss_one (ps_ret pe_bl))))), ?_⟩
    tm_at "rzs"
    rw [show (ks.map V.ref).length = ks.length from List.length_map _]
    tm_at "rzs"
    intro z4 H4 d4 l4 u4
    obtain ⟨j, rfl⟩ := Int.eq_ofNat_of_zero_le l4
    have hj : j ≤ ks.length := by omega
    have hn4 : NdAt H4 n ks := hn.mv (d4.ks hs) fun a m xs g => d4.app (hne a m) g
    have hi4 := hn4.hi
    have mi : n.i ∈ n.as := by simp [Nd.as]
    have nib : n.b ≠ n.i ∧ n.v ≠ n.i ∧ n.o ≠ n.i ∧ ∀ a ∈ n.cs, a ≠ n.i := by
      simp only [Nd.as, List.nodup_cons, List.mem_cons, not_or] at nd
      exact ⟨nd.1.2.2.1, nd.2.1.2.1, nd.2.2.1.1, fun a m e => nd.2.2.2.1 (e ▸ m)⟩
    -- the box put in
    have fin : ∀ (w : Own) (H6 : Hp), Src H6 s → KeepS H H6 → (∀ a o, H a = some o → a ≠ s → a ∉ n.as → H6 a = some o) → H6 n.b = some (.lst [sX (kdW n.ow.kd), .str (sO n.nm), .ref n.v, .ref n.o, .ref n.i]) → H6 n.v = some (.lst n.st) → H6 n.i = some (.lst (ks.map V.ref)) → OwnN H6 n.o n.cs w → w.kd = n.ow.kd → OwnI (ks.length + 1) w →
        Q (.bl true) (upd H6 n.i (.lst ((putL j x ks).map V.ref))) := fun w H6 hs6 k6 r6 b6 v6 i6 o6 e6 w6 => by
      have b5 : But n.i H6 (upd H6 n.i (.lst ((putL j x ks).map V.ref))) := But.refl.upd
      have g5 : (upd H6 n.i (.lst ((putL j x ks).map V.ref))) n.i = some (.lst ((putL j x ks).map V.ref)) := upd_same
      generalize upd H6 n.i (.lst ((putL j x ks).map V.ref)) = H5 at b5 g5
      have kk : KeepS H6 H5 := KeepS.refl.butL b5 i6
      refine kT w j H5 hj (hs6.but b5 ni.symm) (k6.trans kk) (fun a o g n1 n2 => b5.app (fun e => n2 (by rw [e]; exact mi)) (r6 a o g n1 n2)) ⟨?_, b5.app nib.2.1 v6, o6.mv kk fun a m xs g => b5.app ?_ g, g5⟩ e6 w6
      · show H5 n.b = some (.lst [sX (kdW w.kd), .str (sO n.nm), .ref n.v, .ref n.o, .ref n.i])
        rw [e6]
        exact b5.app nib.1 b6
      · rcases List.mem_cons.mp m with rfl | m
        · exact nib.2.2.1
        · exact nib.2.2.2 a m
    have e5 : (ks.map V.ref).take j ++ [V.ref x] ++ (ks.map V.ref).drop j = (putL j x ks).map V.ref := by
      rw [putL_map]; unfold putL; rw [List.append_assoc]; rfl
    have r4 : ∀ a o, H a = some o → a ≠ s → a ∉ n.as → H4 a = some o := fun a o g n1 _ => d4.app n1 g
    dsimp only [gName]
    cases how : n.ow with
    | words t => exact absurd (by rw [how]; rfl) z1
    | picture t u => exact absurd (by rw [how]; rfl) z2
    | row a1 a2 a3 a4 a5 =>
      have hb4 : H4 n.b = some (.lst [sX "row", .str (sO n.nm), .ref n.v, .ref n.o, .ref n.i]) := by
        have := hn4.hb
        rw [how] at this
        exact this
      tm_at "rzs"
      refine ⟨n.i, _, (j : Int), .ref x, rfl, rfl, hi4, by rw [List.length_map]; exact small1000' (by omega), by omega, by omega, ?_⟩
      rw [Int.toNat_natCast, e5]
      tm_at "rzs"
      exact fin n.ow H4 d4.s (d4.ks hs) r4 hn4.hb hn4.hv hi4 hn4.ho rfl (by rw [how] at hw ⊢; exact hw)
    | pile a1 a2 a3 =>
      have hb4 : H4 n.b = some (.lst [sX "pile", .str (sO n.nm), .ref n.v, .ref n.o, .ref n.i]) := by
        have := hn4.hb
        rw [how] at this
        exact this
      tm_at "rzs"
      refine ⟨n.i, _, (j : Int), .ref x, rfl, rfl, hi4, by rw [List.length_map]; exact small1000' (by omega), by omega, by omega, ?_⟩
      rw [Int.toNat_natCast, e5]
      tm_at "rzs"
      exact fin n.ow H4 d4.s (d4.ks hs) r4 hn4.hb hn4.hv hi4 hn4.ho rfl (by rw [how] at hw ⊢; exact hw)
    | grid sp ts us g l st =>
      have hb4 : H4 n.b = some (.lst [sX "grid", .str (sO n.nm), .ref n.v, .ref n.o, .ref n.i]) := by
        have := hn4.hb
        rw [how] at this
        exact this
      tm_at "rzs"
      dsimp only [tNil, List.cons_append, List.nil_append]
      unfold sp_w_spot
      rw [how] at hw
      obtain ⟨w1, w2, w3, w4, w5, w6, w7, w8, w9, w10, w11⟩ := hw
      have lts : 1 ≤ ts.length := by cases ts with | nil => exact absurd rfl w4 | cons _ _ => exact Nat.succ_le_succ (Nat.zero_le _)
      have lus : 1 ≤ us.length := by cases us with | nil => exact absurd rfl w7 | cons _ _ => exact Nat.succ_le_succ (Nat.zero_le _)
      refine ⟨s, n.b, n, ks, sp, ts, us, g, l, st, rfl, d4.s, hn4, how, hne, by omega, lts, w5, lus, w8, fun H5 d5 => ?_, fun p q H5 d5 gp itr ap => ?_⟩
      · dsimp only [gName]
        tm_at "rzs"
        exact kF H5 (d4.trans d5)
      have d05 := d4.trans d5
      have hn5 : NdAt H5 n ks := hn.mv (d05.ks hs) fun a m xs g => d05.app (hne a m) g
      have hb5 : H5 n.b = some (.lst [sX "grid", .str (sO n.nm), .ref n.v, .ref n.o, .ref n.i]) := by
        have := hn5.hb
        rw [how] at this
        exact this
      have ho5 := hn5.ho
      rw [how] at ho5
      obtain ⟨c, t, u, ws, xs, ys, ecs, h1, h2, h3, h4, h5, h6, h7⟩ := ho5
      dsimp only [gName]
      tm_at "rzs"
      refine ⟨c, ws, (j : Int), .ref p, rfl, rfl, h2, by rw [h3.1, w1]; exact small1000' (by omega), by omega, by omega, ?_⟩
      rw [Int.toNat_natCast]
      have ew : ws.take j ++ [V.ref p] ++ ws.drop j = putL j (.ref p) ws := by unfold putL; rw [List.append_assoc]; rfl
      rw [ew]
      have b6 : But c H5 (upd H5 c (.lst (putL j (.ref p) ws))) := But.refl.upd
      have g6 : (upd H5 c (.lst (putL j (.ref p) ws))) c = some (.lst (putL j (.ref p) ws)) := upd_same
      generalize upd H5 c (.lst (putL j (.ref p) ws)) = H6 at b6 g6
      have nd' := nd
      simp only [Nd.as, ecs, List.nodup_cons, List.mem_cons, not_or, List.not_mem_nil, or_false, not_false_eq_true, and_true, true_and, List.nodup_nil] at nd'
      have mc : c ∈ n.as := by simp [Nd.as, ecs]
      have nc : c ≠ s := hne c mc
      have kk6 : KeepS H5 H6 := KeepS.refl.butL b6 h2
      have hb6 := b6.app nd'.1.2.2.2.1 hb5
      have hi6 := b6.app nd'.2.2.2.1.1 hn5.hi
      have hv6 := b6.app nd'.2.1.2.2.1 hn5.hv
      have h16 := b6.app nd'.2.2.1.2.1 h1
      have h46 := b6.app (fun e => nd'.2.2.2.2.1.1 e.symm) h4
      have h66 := b6.app (fun e => nd'.2.2.2.2.1.2 e.symm) h6
      have gp6 : H6 p = some (.tup [.int q.1, .int q.2.1, .int q.2.2.1, .int q.2.2.2]) := kk6.tup gp
      tm_at "rzs"
      refine ⟨n.i, _, (j : Int), .ref x, rfl, rfl, hi6, by rw [List.length_map]; exact small1000' (by omega), by omega, by omega, ?_⟩
      rw [Int.toNat_natCast, e5]
      tm_at "rzs"
      exact fin (.grid (putL j q sp) ts us g l st) H6 (d05.s.but b6 nc.symm) ((d05.ks hs).trans kk6) (fun a o g n1 n2 => b6.app (fun e => n2 (by rw [e]; exact mc)) (d05.app n1 g)) (by rw [how]; exact hb6) hv6 hi6
        ⟨c, t, u, putL j (.ref p) ws, xs, ys, ecs, h16, g6, (kk6.sps h3).put ⟨p, rfl, gp6⟩ (by rw [h3.1, w1]; exact hj), h46, kk6.tks h5, h66, kk6.tks h7⟩ (by rw [how]; rfl) ⟨by rw [putL_len, w1], w2.put itr ap, w3, w4, w5, w6, w7, w8, w9, w10, w11⟩
end
end My
namespace My
open PySem PySem.Spec PyProof.Rows L2
section
variable {P : Program} {w : World} {K : PySem.W.Frag} {mg : Str → Option Value} {base : Heap}
def SzL (H : Hp) (v : V) (ls : List (List Nat)) (first : Bool) : Prop := v = .non ∨ (∃ n : Nat, v = .int (n : Int)) ∨ (first = false ∧ ∃ (a : Addr) (n : Nat), v = .ref a ∧ H a = some (.tup [sX "part", .int (n : Int)])) ∨ ∃ (a : Addr) (l : List Nat) (sd : String) (m : Int), v = .ref a ∧ l ∈ ls ∧ (sd = "wide" ∨ sd = "tall") ∧ H a = some (.tup [sX "as", .str (sO l), sX sd, .int m])
theorem SzL.at {H : Hp} {v : V} {ls : List (List Nat)} {f : Bool} (h : SzL H v ls f) (ok : ∀ l ∈ ls, NameOk l) : SzAt H v := by
  rcases h with rfl | ⟨n, rfl⟩ | ⟨_, a, n, rfl, g⟩ | ⟨a, l, sd, m, rfl, ml, hs, g⟩
  · exact .non
  · exact .cells n
  · exact .part a n g
  · exact .tie a l sd m (ok l ml) hs g
def sp_w_size (K : PySem.W.Frag) : Sp := fun vs H Q _ => ∃ (s p : Addr) (ls : List (List Nat)) (first : Bool), vs = [.ref s, .ref p, .bl first] ∧ Src H s ∧ p ≠ s ∧ H p = some (.lst (ls.map fun l => .str (sO l))) ∧ 1 ≤ ls.length ∧ ls.length ≤ 1000 ∧ ∀ v H', Dr s H H' → SzL H' v ls first → Q v H'
theorem ok_w_size (T : Tx w K mg) : FnOk P w K mg base CX0 4 T.d_w_size.f T.d_w_size.fd ["_law_source_here", "_law_names", "_law_first"] (sp_w_size K) := by
  refine T.d_w_size.F.ok sc_w_size (fun vs H Q E h => ?_) (fun cdv A outer s H vs Q E hr h => ?_)
  · obtain ⟨s, p, ls, first, rfl, _⟩ := h
    rfl
  · obtain ⟨s, p, ls, first, rfl, hs, np, hp, l1, l2, k⟩ := h
    refine ⟨_, (pss_cons (ps_set (i := 3) sc_w_size.nd rfl (Or.inl rfl) (pe_call (ok_w_next T) (hr.mono (by decide)) (by rfl) T.d_w_next.g T.d_w_next.F.kp T.d_w_next.b .nil pass0 (pa_cons (pv 0) (pa_cons pe_int pa_nil))))
      (pss_cons (ps_if (pt_cmpR op_eq (pv 3) pe_int (nomark _))
      (pss_one (ps_ret (pe_call (ok_w_number T) (hr.mono (by decide)) (by rfl) T.d_w_number.g T.d_w_number.F.kp T.d_w_number.b .nil pass0 (pa_cons (pv 0) pa_nil))))
      pss_nil)
      (pss_cons (ps_if (PW.pt (pw_and (pt_cmpR op_eq (pv 3) pe_int (nomark _)) (pw_and1 (pt_not (pt_val (pv 2))))))
      (pss_one (ps_ret (pe_tupA (pa_cons pe_str (pa_cons (pe_call (ok_w_number T) (hr.mono (by decide)) (by rfl) T.d_w_number.g T.d_w_number.F.kp T.d_w_number.b .nil pass0 (pa_cons (pv 0) pa_nil)) pa_nil)))))
      pss_nil)
      (pss_cons (ps_if (pt_cmpR op_eq (pv 3) pe_int (nomark _))
      (pss_cons (ps_set (i := 4) sc_w_size.nd rfl (Or.inl rfl) (pe_ix (ix_listK (K := K) rfl) (pe_lstA (pa_cons pe_str (pa_cons pe_str pa_nil))) (pe_call (ok_w_next T) (hr.mono (by decide)) (by rfl) T.d_w_next.g T.d_w_next.F.kp T.d_w_next.b .nil pass0 (pa_cons (pv 0) (pa_cons pe_int pa_nil))) (fun _ _ => rfl)))
      (pss_one (ps_ret (pe_tupA (pa_cons pe_str (pa_cons (pe_ix (ix_listK (K := K) rfl) (pv 1) (pe_call (ok_w_next T) (hr.mono (by decide)) (by rfl) T.d_w_next.g T.d_w_next.F.kp T.d_w_next.b .nil pass0 (pa_cons (pv 0) (pa_cons (pe_callB (call_lenK (K := K) rfl) (by rfl) T.b_len (by decide +kernel) (pa_cons (pv 1) pa_nil)) pa_nil))) (fun _ _ => rfl)) (pa_cons (pv 4) (pa_cons (pe_op op_sub (pe_call (ok_w_number T) (hr.mono (by decide)) (by rfl) T.d_w_number.g T.d_w_number.F.kp T.d_w_number.b .nil pass0 (pa_cons (pv 0) pa_nil)) (pe_call (ok_w_number T) (hr.mono (by decide)) (by rfl) T.d_w_number.g T.d_w_number.F.kp T.d_w_number.b .nil pass0 (pa_cons (pv 0) pa_nil))) pa_nil))))))))
      pss_nil)
      (pss_one (ps_ret pe_non)))))), ?_⟩
    tm_at "rzs"
    intro z1 H1 d1 b1 u1
    dsimp only [gName]
    have hz : z1 = 0 ∨ z1 = 1 ∨ z1 = 2 ∨ z1 = 3 := by omega
    have d01 := d1
    rcases hz with rfl | rfl | rfl | rfl
    · tm_at "rzs"
      exact k _ _ d1 (.inl rfl)
    · tm_at "rzs"
      intro n2 H2 d2 u2
      tm_at "rzs"
      exact k _ _ (d1.trans d2) (.inr (.inl ⟨n2, rfl⟩))
    · cases first with
      | true =>
        tm_at "rzs"
        exact k _ _ d1 (.inl rfl)
      | false =>
        tm_at "rzs"
        intro n2 H2 d2 u2
        tm_at "rzs"
        intro q Hq fq sq gq
        exact k _ _ ((d1.trans d2).same sq) (.inr (.inr (.inl ⟨rfl, q, n2, rfl, gq⟩)))
    · tm_at "rzs"
      intro p4 H4 f4 s4 g4
      have n4 : p4 ≠ s := d1.s.ne f4
      have d04 := d1.same s4
      tm_at "rzs"
      intro z5 H5 d5 l5 u5
      obtain ⟨sv, hx, sd, rfl, hsd⟩ := pickL (P := fun v => ∃ sd : String, v = sX sd ∧ (sd = "wide" ∨ sd = "tall")) l5 u5 (xs := [sX "wide", sX "tall"]) (fun y m => by
        simp only [List.mem_cons, List.not_mem_nil, or_false] at m
        rcases m with rfl | rfl
        · exact ⟨_, rfl, .inl rfl⟩
        · exact ⟨_, rfl, .inr rfl⟩)
      refine ⟨_, _, _, _, rfl, rfl, sqL (d5.app n4 g4), hx, ?_⟩
      have d05 := d04.trans d5
      have hp5 := d05.app np hp
      dsimp only [gName]
      tm_at "rzs"
      rw [List.length_map]
      refine ⟨by omega, by omega, fun n6 H6 d6 l6 u6 => ?_⟩
      obtain ⟨j, rfl⟩ := Int.eq_ofNat_of_zero_le l6
      have hj : j < ls.length := by omega
      have d06 := d05.trans d6
      refine ⟨_, _, _, _, rfl, rfl, sqL (d06.app np hp), atI_nat (j := j) (v := .str (sO ls[j])) (by rw [List.getElem?_map, List.getElem?_eq_getElem hj]; rfl), ?_⟩
      tm_at "rzs"
      intro n7 H7 d7 u7
      tm_at "rzs"
      intro n8 H8 d8 u8
      tm_at "rzs"
      intro q Hq fq sq gq
      exact k _ _ (((d06.trans d7).trans d8).same sq) (.inr (.inr (.inr ⟨q, ls[j], sd, _, rfl, List.getElem_mem hj, hsd, gq⟩)))
end
end My
namespace My
open PySem PySem.Spec PyProof.Rows L2
section
variable {P : Program} {w : World} {K : PySem.W.Frag} {mg : Str → Option Value} {base : Heap}
def sp_w_field (K : PySem.W.Frag) : Sp := fun vs H Q _ => ∃ (s p : Addr) (ls : List (List Nat)) (at_ : Nat) (first : Bool), vs = [.ref s, .int (at_ : Int), .ref p, .bl first] ∧ Src H s ∧ p ≠ s ∧ H p = some (.lst (ls.map fun l => .str (sO l))) ∧ 1 ≤ ls.length ∧ ls.length ≤ 1000 ∧ (∀ l ∈ ls, NameOk l) ∧ at_ < 10 ∧
  ∀ v H', Dr s H H' → OkF K H' at_ v → (at_ < 2 → SzL H' v ls first) → Q v H'
theorem ok_w_field (T : Tx w K mg) : FnOk P w K mg base CX0 5 T.d_w_field.f T.d_w_field.fd ["_law_source_here", "_law_at", "_law_names", "_law_first"] (sp_w_field K) := by
  refine T.d_w_field.F.ok sc_w_field (fun vs H Q E h => ?_) (fun cdv A outer s H vs Q E hr h => ?_)
  · obtain ⟨s, p, ls, at_, first, rfl, _⟩ := h
    rfl
  · obtain ⟨s, p, ls, at_, first, rfl, hs, np, hp, l1, l2, lok, a10, k⟩ := h
    refine ⟨_, (pss_cons (ps_if (pt_cmpR op_lt (pv 1) pe_int (nomark _))
      (pss_one (ps_ret (pe_call (ok_w_size T) (hr.mono (by decide)) (by rfl) T.d_w_size.g T.d_w_size.F.kp T.d_w_size.b .nil pass0 (pa_cons (pv 0) (pa_cons (pv 2) (pa_cons (pv 3) pa_nil))))))
      pss_nil)
      (pss_cons (ps_if (pt_cmpR op_lt (pv 1) pe_int (nomark _))
      (pss_one (ps_ret (pe_ix (ix_listK (K := K) rfl) (pe_lstA (pa_cons pe_non (pa_cons (pe_call (ok_w_number T) (hr.mono (by decide)) (by rfl) T.d_w_number.g T.d_w_number.F.kp T.d_w_number.b .nil pass0 (pa_cons (pv 0) pa_nil)) pa_nil))) (pe_call (ok_w_next T) (hr.mono (by decide)) (by rfl) T.d_w_next.g T.d_w_next.F.kp T.d_w_next.b .nil pass0 (pa_cons (pv 0) (pa_cons pe_int pa_nil))) (fun _ _ => rfl))))
      pss_nil)
      (pss_cons (ps_if (pt_cmpR op_lt (pv 1) pe_int (nomark _))
      (pss_one (ps_ret (pe_call (ok_w_number T) (hr.mono (by decide)) (by rfl) T.d_w_number.g T.d_w_number.F.kp T.d_w_number.b .nil pass0 (pa_cons (pv 0) pa_nil))))
      pss_nil)
      (pss_cons (ps_if (pt_cmpR op_eq (pv 1) pe_int (nomark _))
      (pss_one (ps_ret (pe_callTy (call_tupLK (K := K) rfl) (by rfl) T.b_tuple (by decide +kernel) (pa_cons (pe_lc (own := [("_law_k", 4)]) (g := gName 4) (by rfl) sc_w_field.nd (pi_range1 (by rfl) T.b_range (pa_cons pe_int pa_nil)) (blkOk_by (own := [("_law_k", 4)]) (N := N_w_field) (sc := defScope s_w_field) (by decide +kernel)) (fun _ _ _ _ _ => (pg_name (i := 4) sc_w_field.nd rfl (Or.inl rfl))) (fun _ _ _ _ _ => pts_nil) (fun _ _ _ _ _ => (pe_call (ok_w_number T) (hr.mono (by decide)) (by rfl) T.d_w_number.g T.d_w_number.F.kp T.d_w_number.b .nil pass0 (pa_cons (pv 0) pa_nil)))) pa_nil))))
      pss_nil)
      (pss_one (ps_ret (pe_ix (ix_listK (K := K) rfl) (pe_lstA (pa_cons pe_non (pa_cons pe_str (pa_cons pe_str (pa_cons pe_str (pa_cons pe_str (pa_cons pe_str pa_nil))))))) (pe_call (ok_w_next T) (hr.mono (by decide)) (by rfl) T.d_w_next.g T.d_w_next.F.kp T.d_w_next.b .nil pass0 (pa_cons (pv 0) (pa_cons pe_int pa_nil))) (fun _ _ => rfl)))))))), ?_⟩
    tm_at "rzs"
    have dd : Dr s H H := Dr.refl hs
    by_cases e2 : at_ < 2
    · refine iteT' (decide_eq_true (by omega)) ?_
      tm_at "rzs"
      dsimp only [tNil, List.cons_append, List.nil_append]
      unfold sp_w_size
      refine ⟨s, p, ls, first, rfl, hs, np, hp, l1, l2, fun v H' d sz => k v H' d ?_ fun _ => sz⟩
      have : at_ = 0 ∨ at_ = 1 := by omega
      rcases this with rfl | rfl <;> exact sz.at lok
    refine iteF' (decide_eq_false (by omega)) ?_
    tm_at "rzs"
    by_cases e6 : at_ < 6
    · refine iteT' (decide_eq_true (by omega)) ?_
      tm_at "rzs"
      intro n2 H2 d2 u2
      tm_at "rzs"
      intro p3 H3 f3 s3 g3
      have n3 : p3 ≠ s := d2.s.ne f3
      tm_at "rzs"
      intro z4 H4 d4 l4 u4
      obtain ⟨sv, hx, hb⟩ := pickL (P := BdAt) l4 u4 (xs := [.non, .int (n2 : Int)]) (fun y m => by
        simp only [List.mem_cons, List.not_mem_nil, or_false] at m
        rcases m with rfl | rfl
        · exact .inl rfl
        · exact .inr ⟨n2, rfl⟩)
      refine ⟨_, _, _, _, rfl, rfl, sqL (d4.app n3 g3), hx, ?_⟩
      refine k _ _ ((d2.same s3).trans d4) ?_ (fun z => absurd z e2)
      have : at_ = 2 ∨ at_ = 3 ∨ at_ = 4 ∨ at_ = 5 := by omega
      rcases this with rfl | rfl | rfl | rfl <;> exact hb
    refine iteF' (decide_eq_false (by omega)) ?_
    tm_at "rzs"
    by_cases e8 : at_ < 8
    · refine iteT' (decide_eq_true (by omega)) ?_
      tm_at "rzs"
      intro n2 H2 d2 u2
      refine k _ _ d2 ?_ (fun z => absurd z e2)
      have : at_ = 6 ∨ at_ = 7 := by omega
      rcases this with rfl | rfl <;> exact ⟨n2, rfl⟩
    refine iteF' (decide_eq_false (by omega)) ?_
    tm_at "rzs"
    by_cases e9 : at_ = 8
    · subst e9
      tm_at "rzs"
      refine fun D hD => lcRo (n := 4) (s := s) (fun i v H => CtAt v) (fun i v Ha Hb acc h g hb => h) (fun i v Ha Hb h hsa d => h) hs hD (by decide) (fun i H' Kt Kf acc hi' dp hacc kk => ?_) (fun us H4 d4 hul hub nD gD => ?_)
      · tm_at "rzs"
        intro m H5 d5 u5
        exact kk _ H5 d5 ⟨m, rfl⟩
      obtain ⟨r0, r1, r2, r3, rfl⟩ := four hul
      obtain ⟨n0, rfl⟩ := hub 0 _ rfl
      obtain ⟨n1, rfl⟩ := hub 1 _ rfl
      obtain ⟨n2, rfl⟩ := hub 2 _ rfl
      obtain ⟨n3, rfl⟩ := hub 3 _ rfl
      tm_at "rzs"
      refine ⟨D, _, rfl, sqL gD, fun q H5 f5 s5 g5 => ?_⟩
      exact k _ _ (d4.same s5) ⟨q, n0, n1, n2, n3, rfl, sqT g5⟩ (fun z => absurd z e2)
    obtain rfl : at_ = 9 := by omega
    tm_at "rzs"
    intro p3 H3 f3 s3 g3
    have n3 : p3 ≠ s := hs.ne f3
    tm_at "rzs"
    intro z4 H4 d4 l4 u4
    obtain ⟨sv, hx, hb⟩ := pickL (P := StAt) l4 u4 (xs := [.non, sX "start", sX "end", sX "middle", sX "stretch", sX "base"]) (fun y m => by
      simp only [List.mem_cons, List.not_mem_nil, or_false] at m
      rcases m with rfl | rfl | rfl | rfl | rfl | rfl
      · exact .inl rfl
      · exact .inr ⟨"start", by simp [stands5], rfl⟩
      · exact .inr ⟨"end", by simp [stands5], rfl⟩
      · exact .inr ⟨"middle", by simp [stands5], rfl⟩
      · exact .inr ⟨"stretch", by simp [stands5], rfl⟩
      · exact .inr ⟨"base", by simp [stands5], rfl⟩)
    refine ⟨_, _, _, _, rfl, rfl, sqL (d4.app n3 g3), hx, ?_⟩
    exact k _ _ ((Dr.of hs s3).trans d4) hb (fun z => absurd z e2)
end
end My
namespace My
open PySem PySem.Spec PyProof.Rows L2
section
variable {P : Program} {w : World} {K : PySem.W.Frag} {mg : Str → Option Value} {base : Heap}
def leafB (k : Kd) : Bool := decide (k = .words) || decide (k = .picture)
def holdQ (l : Addr → Nat) (ns : List Nk) (j : Nat) : Bool := match ns[j]? with
  | some x => decide (l x.1.b < 10) && !leafB x.1.ow.kd
  | none => false
theorem holdQ_at {l : Addr → Nat} {ns : List Nk} {j : Nat} {x : Nk} (e : ns[j]? = some x) : holdQ l ns j = (decide (l x.1.b < 10) && !leafB x.1.ow.kd) := by unfold holdQ; rw [e]
theorem leaf_in (k : Kd) : inV (sX (kdW k)) [V.str (Str.ofString "words"), V.str (Str.ofString "picture")] = leafB k := by cases k <;> decide +kernel
theorem SzL.inn {H : Hp} {v : V} {ls : List (List Nat)} {f : Bool} (h : SzL H v ls f) : SzIn ls H (!f) v := by
  rcases h with h | h | ⟨e, h⟩ | ⟨a, l, sd, m, e1, ml, _, g⟩
  · exact .inl h
  · exact .inr (.inl h)
  · exact .inr (.inr (.inl ⟨by rw [e]; rfl, h⟩))
  · exact .inr (.inr (.inr ⟨a, l, sd, m, e1, g, ml⟩))
def sp_w_tree (K : PySem.W.Frag) : Sp := fun vs H Q _ => ∃ (s : Addr) (m : Int), vs = [.ref s, .int m] ∧ Src H s ∧ 1 ≤ m ∧ m ≤ 40 ∧ ∀ (t : PT) H', Dr s H H' → TrOk K H' t → (∀ x ∈ t.nodes, ∀ a ∈ x.1.as, H a = none ∧ a ≠ s) → Q (.ref t.n.b) H'
theorem ok_w_tree (T : Tx w K mg) : FnOk P w K mg base CX0 7 T.d_w_tree.f T.d_w_tree.fd ["_law_source_here", "_law_many"] (sp_w_tree K) := by
  refine T.d_w_tree.F.ok sc_w_tree (fun vs H Q E h => ?_) (fun cdv A outer s H vs Q E hr h => ?_)
  · obtain ⟨s, m, rfl, _⟩ := h
    rfl
  · obtain ⟨s, m, rfl, hs, m1, m40, k⟩ := h
    refine ⟨_, (pss_cons (ps_set (i := 2) sc_w_tree.nd rfl (Or.inl rfl) pe_dnewA)
      (pss_cons (ps_set (i := 3) sc_w_tree.nd rfl (Or.inr rfl) (pe_lstA (pa_cons (pe_call (ok_w_box T) (hr.mono (by decide)) (by rfl) T.d_w_box.g T.d_w_box.F.kp T.d_w_box.b .nil pass0 (pa_cons (pv 0) (pa_cons (pv 2) pa_nil))) pa_nil)))
      (pss_cons (ps_set (i := 4) sc_w_tree.nd rfl (Or.inr rfl) (pe_lstA (pa_cons pe_int pa_nil)))
      (pss_cons (ps_for PassesOwn.never (by rfl) (pi_range1 (by rfl) T.b_range (pa_cons (pe_op op_sub (pv 1) pe_int) pa_nil)) (pg_name (i := 5) sc_w_tree.nd rfl (Or.inl rfl))
      (pss_cons (ps_setLc (i := 6) (own := [("_law_j", 10)]) (g := gName 10) (by rfl) sc_w_tree.nd rfl rfl (sw_true rfl rfl rfl (by decide +kernel)) (pi_range1 (by rfl) T.b_range (pa_cons (pe_callB (call_lenK (K := K) rfl) (by rfl) T.b_len (by decide +kernel) (pa_cons (pv 3) pa_nil)) pa_nil)) (blkOk_by (own := [("_law_j", 10)]) (N := N_w_tree) (sc := defScope s_w_tree) (by decide +kernel)) (fun _ _ _ _ _ => (pg_name (i := 10) sc_w_tree.nd rfl (Or.inl rfl))) (fun _ _ _ _ _ => (pts_one (PW.pt (pw_and (pt_cmpR op_lt (pe_ix (ix_listK (K := K) rfl) (pv 4) (pv 10) (fun _ _ => rfl)) pe_int (nomark _)) (pw_and1 (pt_cmpR (op_notInK (K := K) rfl) (pe_ix (ix_listK (K := K) rfl) (pe_ix (ix_listK (K := K) rfl) (pv 3) (pv 10) (fun _ _ => rfl)) pe_int (fun _ _ => rfl)) (pe_lstA (pa_cons pe_str (pa_cons pe_str pa_nil))) (by rfl))))))) (fun _ _ _ _ _ => (pv 10)))
      (pss_one (ps_if (pt_cmpR (op_ne0K (K := K) hr.units rfl) (pv 6) (pe_lstA pa_nil) (nomark _))
      (pss_cons (ps_set (i := 7) sc_w_tree.nd rfl (Or.inl rfl) (pe_ix (ix_listK (K := K) rfl) (pv 6) (pe_ix (ix_listK (K := K) rfl) (pe_lstA (pa_cons (pe_un un_neg pe_int) (pa_cons (pe_call (ok_w_next T) (hr.mono (by decide)) (by rfl) T.d_w_next.g T.d_w_next.F.kp T.d_w_next.b .nil pass0 (pa_cons (pv 0) (pa_cons (pe_callB (call_lenK (K := K) rfl) (by rfl) T.b_len (by decide +kernel) (pa_cons (pv 6) pa_nil)) pa_nil))) pa_nil))) (pe_call (ok_w_next T) (hr.mono (by decide)) (by rfl) T.d_w_next.g T.d_w_next.F.kp T.d_w_next.b .nil pass0 (pa_cons (pv 0) (pa_cons pe_int pa_nil))) (fun _ _ => rfl)) (fun _ _ => rfl)))
      (pss_cons (ps_set (i := 8) sc_w_tree.nd rfl (Or.inl rfl) (pe_call (ok_w_box T) (hr.mono (by decide)) (by rfl) T.d_w_box.g T.d_w_box.F.kp T.d_w_box.b .nil pass0 (pa_cons (pv 0) (pa_cons (pv 2) pa_nil))))
      (pss_one (ps_if (PW.pt (pw_and (pt_cmpR op_lt (pe_callB (call_lenK (K := K) rfl) (by rfl) T.b_len (by decide +kernel) (pa_cons (pe_ix (ix_listK (K := K) rfl) (pe_ix (ix_listK (K := K) rfl) (pv 3) (pv 7) (fun _ _ => rfl)) pe_int (fun _ _ => rfl)) pa_nil)) pe_int (nomark _)) (pw_and1 (pt_val (pe_call (ok_w_into T) (hr.mono (by decide)) (by rfl) T.d_w_into.g T.d_w_into.F.kp T.d_w_into.b .nil pass0 (pa_cons (pv 0) (pa_cons (pe_ix (ix_listK (K := K) rfl) (pv 3) (pv 7) (fun _ _ => rfl)) (pa_cons (pv 8) pa_nil))))))))
      (pss_cons (ps_expr (pe_bm PySem.F.plainAttrs_list PySem.F.slot_list_append PySem.F.type_list_append mt_appendA (pv 3) (pa_cons (pv 8) pa_nil)))
      (pss_one (ps_expr (pe_bm PySem.F.plainAttrs_list PySem.F.slot_list_append PySem.F.type_list_append mt_appendA (pv 4) (pa_cons (pe_op op_add (pe_ix (ix_listK (K := K) rfl) (pv 4) (pv 7) (fun _ _ => rfl)) pe_int) pa_nil)))))
      pss_nil))))
      pss_nil))))
      (pss_cons (ps_setLc (i := 9) (own := [("_law_box_here", 8)]) (g := gName 8) (by rfl) sc_w_tree.nd rfl rfl (sw_true rfl rfl rfl (by decide +kernel)) (pi_listK (K := K) rfl (pv 3)) (blkOk_by (own := [("_law_box_here", 8)]) (N := N_w_tree) (sc := defScope s_w_tree) (by decide +kernel)) (fun _ _ _ _ _ => (pg_name (i := 8) sc_w_tree.nd rfl (Or.inl rfl))) (fun _ _ _ _ _ => pts_nil) (fun _ _ _ _ _ => (pe_ix (ix_listK (K := K) rfl) (pv 8) pe_int (fun _ _ => rfl))))
      (pss_cons (ps_for PassesOwn.never (by rfl) (pi_listK (K := K) rfl (pv 3)) (pg_name (i := 8) sc_w_tree.nd rfl (Or.inl rfl))
      (pss_one (ps_for PassesOwn.never (by rfl) (pi_range1 (by rfl) T.b_range (pa_cons (pe_call (ok_w_next T) (hr.mono (by decide)) (by rfl) T.d_w_next.g T.d_w_next.F.kp T.d_w_next.b .nil pass0 (pa_cons (pv 0) (pa_cons pe_int pa_nil))) pa_nil)) (pg_name (i := 5) sc_w_tree.nd rfl (Or.inl rfl))
      (pss_cons (ps_set (i := 7) sc_w_tree.nd rfl (Or.inl rfl) (pe_call (ok_w_next T) (hr.mono (by decide)) (by rfl) T.d_w_next.g T.d_w_next.F.kp T.d_w_next.b .nil pass0 (pa_cons (pv 0) (pa_cons pe_int pa_nil))))
      (pss_one (ps_asg (pe_call (ok_w_field T) (hr.mono (by decide)) (by rfl) T.d_w_field.g T.d_w_field.F.kp T.d_w_field.b .nil pass0 (pa_cons (pv 0) (pa_cons (pv 7) (pa_cons (pv 9) (pa_cons (pe_cmpR op_eq (pe_ix (ix_listK (K := K) rfl) (pv 8) pe_int (fun _ _ => rfl)) (pe_ix (ix_listK (K := K) rfl) (pv 9) pe_int (fun _ _ => rfl)) (nomark _)) pa_nil))))) (pg_sub (pe_ix (ix_listK (K := K) rfl) (pv 8) pe_int (fun _ _ => rfl)) (pv 7) set_listA)))))))
      (pss_one (ps_ret (pe_ix (ix_listK (K := K) rfl) (pv 3) pe_int (fun _ _ => rfl)))))))))), ?_⟩
    refine dnew_i ?_
    intro kn H1 f1 s1 g1
    have nks : kn ≠ s := hs.ne f1
    have hs1 := hs.same s1
    dsimp only [gName]
    tm_at "rzs"
    refine ⟨s, kn, [], rfl, hs1, nks, g1, Nat.zero_le _, fun n0 r0 H2 hs2 b2 hn2 nd2 fr2 gk2 nin2 lok2 ob2 st2 gr2 => ?_⟩
    tm_at "rzs"
    intro pB H3 f3 s3 g3
    dsimp only [gName]
    tm_at "rzs"
    intro pD H4 f4 s4 g4
    dsimp only [gName]
    tm_at "rzs"
    have n0b := gk2
    have fBa : H1 pB = none → H pB = none := s1.free
    have nBs : pB ≠ s := hs2.ne f3
    have nDs : pD ≠ s := (hs2.same s3).ne f4
    have nkB : pB ≠ kn := (ne_of_none gk2 f3).symm
    have nkD : pD ≠ kn := (ne_of_none (s3 _ _ gk2) f4).symm
    have nBD : pB ≠ pD := ne_of_none g3 f4
    have fk : H kn = none := f1
    have fB : H pB = none := s1.free (b2.free f3 nBs nkB)
    have fD : H pD = none := s1.free (b2.free (s3.free f4) nDs nkD)
    have s24 := s3.trans s4
    have ho0 := ob2.own
    have kid0 : ∀ a ∈ n0.as, H a = none ∧ a ≠ s ∧ a ≠ pB ∧ a ≠ pD ∧ a ≠ kn := fun a ma => by
      obtain ⟨x1, x2, x3⟩ := fr2 a ma
      obtain ⟨o, g⟩ := hn2.live a ma
      exact ⟨s1.free x1, x2, ne_of_none g f3, ne_of_none (s3 _ _ g) f4, x3⟩
    have init : TrI K H s kn pB pD 0 H4 (.mk n0 []) [(n0, [])] (fun _ => 1) [n0.nm] := {
      dr := ⟨hs2.same s24, fun a o n g => s24 _ _ (b2 a o (s1 _ _ g) n (ne_of_none g f1))⟩
      gB := s4 _ _ g3
      gD := g4
      gk := s24 _ _ gk2
      ll := Nat.le_refl _
      ln := Nat.le_refl _
      pm := by rw [PT.nodes, nodesL]; exact List.Perm.refl _
      rt := ⟨_, rfl, rfl⟩
      nd := fun x m => by rw [List.mem_singleton.mp m]; exact hn2.same s24
      ok := fun x m => by
        rw [List.mem_singleton.mp m]
        exact ⟨lok2, by show OkL K H4 n0.st; rw [st2]; exact st0_ok (s24 _ _ gr2), ho0, Nat.zero_le _⟩
      lv := fun x m => by rw [List.mem_singleton.mp m]; exact ⟨by decide, fun k mk => by cases mk⟩
      l1 := fun x m => Nat.le_refl _
      nm := fun x m => by rw [List.mem_singleton.mp m]; exact List.mem_singleton.mpr rfl
      s0 := fun x m => by rw [List.mem_singleton.mp m]; show n0.st.getD 0 .non = .non ∧ n0.st.getD 1 .non = .non; rw [st2]; exact ⟨rfl, rfl⟩
      fr := fun x m => by rw [List.mem_singleton.mp m]; exact kid0
      asn := by rw [List.flatMap_cons, List.flatMap_nil, List.append_nil]; exact nd2
      nmn := by simp }
    obtain ⟨N, hN, hN1⟩ : ∃ N : Nat, (m - 1).toNat = N ∧ N + 1 ≤ 40 := ⟨_, rfl, by omega⟩
    rw [hN]
    refine for_range (lo := 0) (n := N) (fun i σ H' => ∃ (T0 : PT) (ns : List Nk) (l : Addr → Nat) (ls : List (List Nat)) (v5 v6 v7 v8 v9 v10 : Option V), σ = [some (.ref s), some (.int m), some (.ref kn), some (.ref pB), some (.ref pD), v5, v6, v7, v8, v9, v10] ∧ TrI K H s kn pB pD i H' T0 ns l ls)
      ⟨_, _, _, _, _, _, _, _, _, _, rfl, init⟩ ?_ ?_
    · rintro i σ H5 hi ⟨T0, ns, l, ls, v5, v6, v7, v8, v9, v10, rfl, h5⟩
      have gB5 := h5.gB
      have gD5 := h5.gD
      have lnB : (ns.map fun x => V.ref x.1.b).length = ns.length := List.length_map _
      have lnD : (ns.map fun x => V.int (l x.1.b : Int)).length = ns.length := List.length_map _
      have ln5 := h5.ln
      dsimp only [gName]
      tm_at "rd"
      tm_at "rd"
      refine ⟨_, rfl, by rw [lnB]; omega, by rw [lnB]; omega, ?_⟩
      rw [lnB, Int.toNat_natCast]
      refine fun D hD => lcRf (n := ns.length) (fun j => V.int (0 + (j : Int))) (holdQ l ns) hD (by omega) (fun j Hj Kt Kf hj sj kt kf => ?_) (fun H6 s6 g6 => ?_)
      · have ex : ns[j]? = some ns[j] := List.getElem?_eq_getElem hj
        generalize ns[j] = x at ex
        have mx := List.mem_of_getElem? ex
        rw [holdQ_at ex] at kt kf
        have hbx := sj _ _ (h5.nd x mx).hb
        tm_at "rds"
        refine ⟨_, _, _, _, rfl, rfl, sqL (sj _ _ gD5), by rw [Int.zero_add]; exact atI_nat (j := j) (v := .int (l x.1.b : Int)) (by rw [List.getElem?_map, ex]; rfl), ?_⟩
        tm_at "rds"
        refine ite2 (fun c1 => ?_) (fun c1 => ?_)
        rotate_left
        · exact kf (by rw [decide_eq_false fun z => c1 (decide_eq_true (by omega))]; rfl) _ (Same.refl _)
        have c1 : l x.1.b < 10 := by have := of_decide_eq_true c1; omega
        tm_at "rds"
        refine ⟨_, _, _, _, rfl, rfl, sqL (sj _ _ gB5), by rw [Int.zero_add]; exact atI_nat (j := j) (v := .ref x.1.b) (by rw [List.getElem?_map, ex]; rfl), ?_⟩
        tm_at "rzs"
        intro pl Hl fl sl gl
        refine ⟨pl, _, rfl, .inl (sqL gl), rfl, rfl, ?_⟩
        rw [if_pos rfl, leaf_in]
        cases hlf : leafB x.1.ow.kd with
        | true =>
          refine ⟨_, rfl, ?_⟩
          refine iteF' (by rfl) ?_
          exact kf (by rw [hlf, decide_eq_true c1]; rfl) _ sl
        | false =>
          refine ⟨_, rfl, ?_⟩
          refine iteT' (by rfl) ?_
          tm_at "rds"
          exact kt (by rw [hlf, decide_eq_true c1]; rfl) _ sl
      have h6 := h5.same s6
      have lh : ((List.range ns.length).filter (holdQ l ns)).length ≤ ns.length := Nat.le_trans (List.length_filter_le _ _) (by rw [List.length_range]; exact Nat.le_refl _)
      have lhm : (((List.range ns.length).filter (holdQ l ns)).map fun j : Nat => V.int (0 + (j : Int))).length = ((List.range ns.length).filter (holdQ l ns)).length := List.length_map _
      have hgood : ∀ q : Nat, ∀ j, ((List.range ns.length).filter (holdQ l ns))[q]? = some j → ∃ x : Nk, ns[j]? = some x ∧ l x.1.b < 10 ∧ x.1.ow.kd ≠ .words ∧ x.1.ow.kd ≠ .picture := fun q j e => by
        have m := List.mem_of_getElem? e
        obtain ⟨m1, m2⟩ := List.mem_filter.mp m
        have hj : j < ns.length := List.mem_range.mp m1
        have ex : ns[j]? = some ns[j] := List.getElem?_eq_getElem hj
        rw [holdQ_at ex, Bool.and_eq_true] at m2
        refine ⟨_, ex, of_decide_eq_true m2.1, fun z => ?_, fun z => ?_⟩ <;> · rw [z] at m2; exact absurd m2.2 (by decide)
      generalize (List.range ns.length).filter (holdQ l ns) = hs' at g6 lh lhm hgood
      dsimp only [gName]
      tm_at "rds"
      intro pe H7 f7 s7 g7
      have gD7 := s7 _ _ g6
      refine ⟨pe, rfl, sqL g7, .inr ⟨D, _, rfl, sqL gD7, ?_⟩⟩
      have h7 := h6.same s7
      cases hs' with
      | nil =>
        refine ⟨_, rfl, ?_⟩
        refine iteF' (by rfl) ?_
        exact ⟨T0, ns, l, ls, _, _, _, _, _, _, rfl, h7.succ⟩
      | cons j0 hs' =>
        refine ⟨_, rfl, ?_⟩
        refine iteT' (by rfl) ?_
        tm_at "rds"
        rw [lhm]
        rw [List.length_cons] at lh ⊢
        refine ⟨h7.dr.s, by omega, by omega, fun z8 H8 d8 l8 u8 => ?_⟩
        have h8 := h7.dr' d8 nBs nDs nks
        have nDl : D ≠ s := h5.dr.s.ne hD
        have gD8 := d8.app nDl gD7
        tm_at "rds"
        intro p9 H9 f9 s9 g9
        have h9 := h8.same s9
        have hs9 := h9.dr.s
        have n9 : p9 ≠ s := h8.dr.s.ne f9
        tm_at "rds"
        intro z10 H10 d10 l10 u10
        obtain ⟨zv, hx, zz, rfl, hzz⟩ := pickL (P := fun v => ∃ zz : Int, v = .int zz ∧ (zz = -1 ∨ 0 ≤ zz ∧ zz < ((hs'.length + 1 : Nat) : Int))) l10 u10 (xs := [.int (-1), .int z8]) (fun y my => by
          simp only [List.mem_cons, List.not_mem_nil, or_false] at my
          rcases my with rfl | rfl
          · exact ⟨_, rfl, .inl rfl⟩
          · exact ⟨_, rfl, .inr ⟨l8, u8⟩⟩)
        refine ⟨_, _, _, _, rfl, rfl, sqL (d10.app n9 g9), hx, ?_⟩
        have h10 := h9.dr' d10 nBs nDs nks
        have gD10 := d10.app nDl (s9 _ _ gD8)
        obtain ⟨q, v, ev, av⟩ := atI_any (xs := (j0 :: hs').map fun j : Nat => V.int (0 + (j : Int))) (z := zz) (by rw [lhm]; exact hzz) (by simp)
        obtain ⟨j, ej, rfl⟩ := of_map ev
        obtain ⟨x, ex, lx10, z1, z2⟩ := hgood q j ej
        have mx := List.mem_of_getElem? ex
        refine ⟨_, _, _, _, rfl, rfl, sqL gD10, av, ?_⟩
        have gk10 := h10.gk
        have ll10 := h10.ll
        have hs10 := h10.dr.s
        dsimp only [gName]
        tm_at "rds"
        dsimp only [tNil, List.cons_append, List.nil_append]
        unfold sp_w_box
        refine ⟨s, kn, ls, rfl, hs10, nks, gk10, by omega, fun n r H11 hs11 b11 hn11 nd11 fr11 gk11 nin11 lok11 ob11 st11 gr11 => ?_⟩
        have h11 := h10.box b11 hs11 gk11 fk nBs nDs nkB nkD
        have ndx := h11.nd x mx
        have okx := h11.ok x mx
        have hbx := ndx.hb
        have hix := ndx.hi
        have gB11 := h11.gB
        have gD11 := h11.gD
        have lix : (x.2.map V.ref).length = x.2.length := List.length_map _
        dsimp only [gName]
        tm_at "rds"
        refine ⟨_, _, _, _, rfl, rfl, sqL gB11, by rw [Int.zero_add]; exact atI_nat (j := j) (v := .ref x.1.b) (by rw [List.getElem?_map, ex]; rfl), ?_⟩
        tm_at "rzs"
        rw [lix]
        refine ite2 (fun c1 => ?_) (fun c1 => ?_)
        rotate_left
        · exact ⟨T0, ns, l, ls ++ [n.nm], _, _, _, _, _, _, rfl, h11⟩
        have c1 : x.2.length < 20 := by have := of_decide_eq_true c1; omega
        tm_at "rds"
        refine ⟨_, _, _, _, rfl, rfl, sqL gB11, by rw [Int.zero_add]; exact atI_nat (j := j) (v := .ref x.1.b) (by rw [List.getElem?_map, ex]; rfl), ?_⟩
        tm_at "rds"
        dsimp only [tNil, List.cons_append, List.nil_append]
        unfold sp_w_into
        have frn : ∀ b ∈ n.as, H b = none ∧ b ≠ s ∧ b ≠ pB ∧ b ≠ pD ∧ b ≠ kn := fun b mb => by
          obtain ⟨x1, x2, x3⟩ := fr11 b mb
          exact ⟨h10.dr.free x1 x2, x2, (ne_of_none h10.gB x1).symm, (ne_of_none h10.gD x1).symm, x3⟩
        have apn : ∀ b ∈ n.as, b ∉ ns.flatMap fun x => x.1.as := fun b mb z => by
          obtain ⟨y, my, mb'⟩ := List.mem_flatMap.mp z
          obtain ⟨o, g⟩ := (h10.nd y my).live b mb'
          rw [(fr11 b mb).1] at g
          cases g
        have nmx : n.nm ∉ ns.map fun x => x.1.nm := fun z => by
          obtain ⟨y, my, e⟩ := List.mem_map.mp z
          exact nin11 (e ▸ h10.nm y my)
        refine ⟨s, n.b, x.1, x.2, rfl, hs11, ndx, as_nodup h11.asn x mx, fun b mb => (h11.fr x mx b mb).2.1, okx.2.2.1, okx.2.2.2, z1, z2, fun H12 d12 => ?_, fun w p H12 hp hs12 kk12 bb12 nd12 ekd ow12 => ?_⟩
        · refine ⟨_, rfl, ?_⟩
          refine iteF' (by rfl) ?_
          exact ⟨T0, ns, l, ls ++ [n.nm], _, _, _, _, _, _, rfl, h11.dr' d12 nBs nDs nks⟩
        have f0 := h11.fr x mx
        have gB12 := bb12 _ _ gB11 nBs fun m => (f0 pB m).2.2.1 rfl
        have gD12 := bb12 _ _ gD11 nDs fun m => (f0 pD m).2.2.2.1 rfl
        refine ⟨_, rfl, ?_⟩
        refine iteT' (by rfl) ?_
        tm_at "rzs"
        refine ⟨_, _, _, rfl, rfl, gB12, by rw [lnB, sizeLine_eq]; omega, fun H13 b13 g13 => ?_⟩
        have gD13 := b13.app nBD.symm gD12
        tm_at "rzs"
        refine ⟨_, _, _, _, rfl, rfl, sqL gD13, by rw [Int.zero_add]; exact atI_nat (j := j) (v := .int (l x.1.b : Int)) (by rw [List.getElem?_map, ex]; rfl), ?_⟩
        tm_at "rzs"
        refine ⟨_, _, _, rfl, rfl, gD13, by rw [lnD, sizeLine_eq]; omega, fun H14 b14 g14 => ?_⟩
        have okn : NkOk K H11 (n, []) := ⟨lok11, by show OkL K H11 n.st; rw [st11]; exact st0_ok gr11, ob11.own, Nat.zero_le _⟩
        obtain ⟨T', ns', l', h'⟩ := h11.put h10.ln ex hn11 okn (List.mem_append_right _ (List.mem_singleton.mpr rfl)) nmx (by rw [st11]; exact ⟨rfl, rfl⟩) nd11 frn apn lx10 hs12 kk12 bb12 nd12 ow12 c1 b13 g13 b14 g14 fB fD nBs nDs nks nBD nkB nkD
        exact ⟨T', ns', l', _, _, _, _, _, _, _, rfl, h'⟩
    · rintro σ H5 ⟨T0, ns, l, ls, v5, v6, v7, v8, v9, v10, rfl, h5⟩
      have gB5 := h5.gB
      have ln5 := h5.ln
      tm_at "rzs"
      refine ⟨⟨_, sqL gB5⟩, fun D hD => lcLm (K := K) (fun x : Nk => V.ref x.1.b) (fun x : Nk => V.str (sO x.1.nm)) (ys := ns) hD (sqL gB5) (by omega) (fun i x H6 Kt Kf hx s6 kt => ?_) (fun H6 s6 g6 => ?_)⟩
      · have hbx := s6 _ _ (h5.nd x (List.mem_of_getElem? hx)).hb
        tm_at "rzs"
        exact kt _ (Same.refl _)
      have h6 := h5.same s6
      have nDl : D ≠ s := h5.dr.s.ne hD
      have nDB : pB ≠ D := ne_of_none gB5 hD
      have j6 : TrJ K H s pB D H6 T0 ns (bsN ns) (ns.map fun x => x.1.nm) := {
        dr := h6.dr
        gB := by rw [h6.gB]; unfold bsN; rw [List.map_map]; rfl
        gN := by rw [g6, List.map_map]; rfl
        pm := h6.pm
        rt := h6.rt
        bse := rfl
        nme := rfl
        nd := h6.nd
        ok := h6.ok
        fr := fun x m a ma => ⟨(h6.fr x m a ma).1, (h6.fr x m a ma).2.1, (h6.fr x m a ma).2.2.1, fun e => by
          obtain ⟨o, g⟩ := (h5.nd x m).live a ma
          rw [e, hD] at g
          cases g⟩
        asn := h6.asn
        nmn := h6.nmn
        few := by omega
        dep := by
          have lv : ∀ x ∈ T0.nodes, l x.1.b ≤ 10 ∧ ∀ k ∈ x.2, l x.1.b < l k := fun x m => h6.lv x (h6.pm.mem_iff.mpr m)
          have := dep_le T0 lv
          have l0 : 1 ≤ l T0.n.b := by
            obtain ⟨x, e0, eb⟩ := h6.rt
            rw [← eb]
            exact h6.l1 x (List.mem_of_getElem? e0)
          omega
        tie := fun j x e => by
          have := h6.s0 x (List.mem_of_getElem? e)
          rw [this.1, this.2]
          exact ⟨.inl rfl, .inl rfl⟩ }
      have nlen : (ns.map fun x => x.1.nm).length = ns.length := List.length_map _
      have blen : (bsN ns).length = ns.length := List.length_map _
      have nok : ∀ q ∈ ns.map (fun x => x.1.nm), NameOk q := fun q m => by
        obtain ⟨x, mx, rfl⟩ := List.mem_map.mp m
        exact (h5.ok x mx).1
      obtain ⟨x0, e0, _⟩ := h5.rt
      have l0 : 1 ≤ ns.length := (List.getElem?_eq_some_iff.mp e0).1
      generalize (ns.map fun x => x.1.nm) = nms at j6 nlen nok
      generalize bsN ns = bs at j6 blen
      dsimp only [gName]
      have gB6 := j6.gB
      have xs0 : ∀ (j : Nat) (v : V), (bs.map V.ref)[j]? = some v → ∃ b, bs[j]? = some b ∧ v = .ref b := fun j v e => of_map e
      tm_at "rzs"
      refine ⟨⟨_, sqL gB6⟩, for_list (K := K) (a := pB) (xs := bs.map V.ref) (fun j σ H' => ∃ (T1 : PT) (ns1 : List Nk) (v5 v6 v7 v8 v10 : Option V), σ = [some (.ref s), some (.int m), some (.ref kn), some (.ref pB), some (.ref pD), v5, v6, v7, v8, some (.ref D), v10] ∧ TrJ K H s pB D H' T1 ns1 bs nms)
        ⟨_, _, _, _, _, _, _, rfl, j6⟩ (fun j σ H' _ ⟨_, _, _, _, _, _, _, _, q⟩ => sqL q.gB) ?_ ?_⟩
      · rintro j v σ H7 hv ⟨T1, ns1, v5, v6, v7, v8, v10, rfl, j7⟩
        obtain ⟨b, hb, rfl⟩ := xs0 j v hv
        have hs7 := j7.dr.s
        dsimp only [gName]
        tm_at "rzs"
        intro z8 H8 d8 l8 u8
        have j8 := j7.dr' d8 nBs nDl
        tm_at "rzs"
        obtain ⟨R, hR⟩ : ∃ R : Nat, z8.toNat = R := ⟨_, rfl⟩
        rw [hR]
        refine for_range (lo := 0) (n := R) (fun q σ H' => ∃ (T1 : PT) (ns1 : List Nk) (v5 v6 v7 v10 : Option V), σ = [some (.ref s), some (.int m), some (.ref kn), some (.ref pB), some (.ref pD), v5, v6, v7, some (.ref b), some (.ref D), v10] ∧ TrJ K H s pB D H' T1 ns1 bs nms)
          ⟨_, _, _, _, _, _, rfl, j8⟩ ?_ ?_
        · rintro q σ H9 hq ⟨T1, ns1, v5, v6, v7, v10, rfl, j9⟩
          have hs9 := j9.dr.s
          dsimp only [gName]
          tm_at "rzs"
          intro z10 H10 d10 l10 u10
          obtain ⟨at_, rfl⟩ := Int.eq_ofNat_of_zero_le l10
          have j10 := j9.dr' d10 nBs nDl
          have hs10 := j10.dr.s
          have gN10 := j10.gN
          have ex : ∃ x, ns1[j]? = some x ∧ x.1.b = b := by
            have := j10.bse
            rw [← this] at hb
            unfold bsN at hb
            rw [List.getElem?_map] at hb
            cases e : ns1[j]? with
            | none => rw [e] at hb; cases hb
            | some x => rw [e] at hb; cases hb; exact ⟨x, rfl, rfl⟩
          obtain ⟨⟨n1, kb⟩, ex, rfl⟩ := ex
          have mx := List.mem_of_getElem? ex
          have ndx := j10.nd _ mx
          have hbx := ndx.hb
          have hvx := ndx.hv
          dsimp only [gName]
          tm_at "rzs"
          have jn : j < nms.length := by rw [← j10.nme, List.length_map]; exact (List.getElem?_eq_some_iff.mp ex).1
          have ln0 : 0 < nms.length := by omega
          have en : nms[j]? = some n1.nm := by rw [← j10.nme, List.getElem?_map, ex]; rfl
          refine ⟨_, _, _, _, rfl, rfl, sqL gN10, atI_nat (j := 0) (v := .str (sO nms[0])) (by rw [List.getElem?_map, List.getElem?_eq_getElem ln0]; rfl), ?_⟩
          dsimp only [tNil, List.cons_append, List.nil_append]
          have efst : decide (V.str (sO n1.nm) = V.str (sO nms[0])) = decide (j = 0) := by
            refine decide_eq_decide.mpr ⟨fun z => ?_, fun z => ?_⟩
            · have e1 := My.sO_inj (V.str.inj z)
              have e2 : nms[j]? = nms[0]? := by rw [en, List.getElem?_eq_getElem ln0, e1]
              exact (List.getElem?_inj jn j10.nmn).mp e2
            · subst z
              rw [List.getElem?_eq_getElem ln0] at en
              rw [← Option.some.inj en]
          tm_at "rds"
          rw [efst]
          unfold sp_w_field
          refine ⟨s, D, nms, at_, decide (j = 0), rfl, hs10, nDl, gN10, by omega, by omega, nok, by omega, fun v H11 d11 okv szv => ?_⟩
          have j11 := j10.dr' d11 nBs nDl
          have ndx := j11.nd _ mx
          have hbx := ndx.hb
          have hvx := ndx.hv
          have sl : n1.st.length = 10 := (j11.ok _ mx).2.1.1
          tm_at "rzs"
          refine ⟨n1.v, n1.st, (at_ : Int), at_, rfl, rfl, hvx, ixN_nat (by rw [sl]; omega), fun H12 b12 g12 => ?_⟩
          obtain ⟨T', ns', h'⟩ := j11.set ex (by omega) okv (fun z => by
            have := (szv z).inn
            by_cases e0 : j = 0
            · rw [decide_eq_true e0] at this
              rw [decide_eq_false (fun z => z e0)]
              exact this
            · rw [decide_eq_false e0] at this
              rw [decide_eq_true e0]
              exact this) b12 g12
          exact ⟨T', ns', _, _, _, _, rfl, h'⟩
        · rintro σ H9 ⟨T1, ns1, v5, v6, v7, v10, rfl, j9⟩
          exact ⟨T1, ns1, _, _, _, _, _, rfl, j9⟩
      · rintro σ H7 ⟨T1, ns1, v5, v6, v7, v8, v10, rfl, j7⟩
        obtain ⟨x, e0, eb⟩ := j7.rt
        have hb0 : bs[0]? = some T1.n.b := by
          rw [← j7.bse]; unfold bsN; rw [List.getElem?_map, e0]; exact congrArg some eb
        have gB7 := j7.gB
        tm_at "rzs"
        refine ⟨_, _, _, _, rfl, rfl, sqL gB7, atI_nat (j := 0) (v := .ref T1.n.b) (by rw [List.getElem?_map, hb0]; rfl), ?_⟩
        exact k T1 H7 j7.dr j7.done.1 j7.done.2
end
end My
namespace My
open PySem PySem.Spec PyProof.Rows L2
section
variable {P : Program} {w : World} {K : PySem.W.Frag} {mg : Str → Option Value} {base : Heap}
def sp_w_look (K : PySem.W.Frag) (S : Addr) : Sp := fun vs H Q _ => ∃ (p : Addr) (st : List V), vs = [.ref p] ∧ H p = some (.lst st) ∧ OkL K H st ∧ ∀ (y dy : Addr) H', Same H H' → H y = none → H' y = some (.ins S dy (styL st)) → Q (.ref y) H'
theorem ok_w_look (T : Tx w K mg) : FnOk P w K mg base CX0 6 T.d_w_look.f T.d_w_look.fd ["_law_values"] (sp_w_look K T.c_Style.C) := by
  refine T.d_w_look.F.ok sc_w_look (fun vs H Q E h => ?_) (fun cdv A outer s H vs Q E hr h => ?_)
  · obtain ⟨p, st, rfl, _⟩ := h
    rfl
  · obtain ⟨p, st, rfl, hp, ok, k⟩ := h
    obtain ⟨w, h, lw, lh, mw, mh, g, s', r, q, rfl⟩ := ten ok.1
    refine ⟨_, (pss_cons (ps_asg (pe_slice (sl_listK (K := K) rfl) (pv 0) po_none (po_some pe_int)) (pg_unl (by rfl) (pgs_cons (pg_name (i := 1) sc_w_look.nd rfl (Or.inl rfl)) (pgs_cons (pg_name (i := 2) sc_w_look.nd rfl (Or.inl rfl)) (pgs_cons (pg_name (i := 3) sc_w_look.nd rfl (Or.inl rfl)) (pgs_cons (pg_name (i := 4) sc_w_look.nd rfl (Or.inl rfl)) (pgs_cons (pg_name (i := 5) sc_w_look.nd rfl (Or.inl rfl)) pgs_nil)))))))
      (pss_cons (ps_asg (pe_slice (sl_listK (K := K) rfl) (pv 0) (po_some pe_int) po_none) (pg_unl (by rfl) (pgs_cons (pg_name (i := 6) sc_w_look.nd rfl (Or.inl rfl)) (pgs_cons (pg_name (i := 7) sc_w_look.nd rfl (Or.inl rfl)) (pgs_cons (pg_name (i := 8) sc_w_look.nd rfl (Or.inl rfl)) (pgs_cons (pg_name (i := 9) sc_w_look.nd rfl (Or.inl rfl)) (pgs_cons (pg_name (i := 10) sc_w_look.nd rfl (Or.inl rfl)) pgs_nil)))))))
      (pss_one (ps_ret (pe_makeK0 T.d_Style_init.mks (ok_Style_init T) (hr.mono (by decide)) (by rfl) T.c_Style.g (Classical.choose_spec (kb_Style_init_1_wide_high_least_wide_least_high_most_wide_most_high_grow_shrink_rims_stand T)) pass0 (pk_cons (pv 1) (pk_cons (pv 2) (pk_cons (pv 3) (pk_cons (pv 4) (pk_cons (pv 5) (pk_cons (pv 6) (pk_cons (pv 7) (pk_cons (pv 8) (pk_cons (pv 9) (pk_cons (pv 10) pk_nil))))))))))))))), ?_⟩
    tm_at "rzs"
    refine ⟨p, _, rfl, sqL hp, ?_⟩
    rw [show (some (5 : Int)) = some ((5 : Nat) : Int) from rfl, cutV_take]
    intro p1 H1 f1 s1 g1
    refine ⟨p1, _, rfl, sqL g1, rfl, ?_⟩
    tm_at "rzs"
    refine ⟨p, _, rfl, sqL (s1 _ _ hp), ?_⟩
    rw [show (some (5 : Int)) = some ((5 : Nat) : Int) from rfl, cutV_drop]
    intro p2 H2 f2 s2 g2
    refine ⟨p2, _, rfl, sqL g2, rfl, ?_⟩
    tm_at "rzs"
    have s02 := s1.trans s2
    exact mk_style (ok.same s02) fun x dx H' s f g => k x dx H' (s02.trans s) (s02.free f) g
end
end My
namespace My
open PySem PySem.Spec PyProof.Rows L2
section
variable {P : Program} {w : World} {K : PySem.W.Frag} {mg : Str → Option Value} {base : Heap}
def sp_w_made (bc : Kd → Addr) (S : Addr) (K : PySem.W.Frag) : Nat → Sp
  | 0 => fun _ _ _ _ => False
  | n + 1 => fun vs H Q _ => ∃ (t : CT) (b : Addr), vs = [.ref b] ∧ PlAt H t (.ref b) ∧ CtOk K H t ∧ t.dep ≤ n + 1 ∧ ∀ (a : At) H', Same H H' → a.ct = t → BoxAt bc S K H' a → H a.x = none → Q (.ref a.x) H'
theorem okr_w_made (T : Tx w K mg) : ∀ n : Nat, FnOk P w K mg base CX0 (n + 9) T.d_w_made.f T.d_w_made.fd ["_law_box_here"] (sp_w_made (bcT T) T.c_Style.C K n)
  | 0 => (show FnOk P w K mg base CX0 9 _ _ _ _ from T.d_w_made.F.ok (k := 8) (sp := fun _ _ _ _ => False) sc_w_made (fun vs H Q E h => h.elim) (fun cdv A outer s H vs Q E hr h => h.elim))
  | n + 1 => by
    have ih := okr_w_made T n
    refine T.d_w_made.F.ok (k := n + 9) sc_w_made (fun vs H Q E h => ?_) (fun cdv A outer s H vs Q E hr h => ?_)
    · obtain ⟨t, b, rfl, _⟩ := h
      rfl
    · obtain ⟨t, b, rfl, hp, hok, hdep, k⟩ := h
      rw [CT.dep_eq] at hdep
      cases t with
      | mk nm st ow ks =>
      rw [PlAt] at hp
      rw [CtOk] at hok
      obtain ⟨b', vv, o, i, cs, xs, eb, h1, h2, h3, h4, h5⟩ := hp
      obtain rfl := V.ref.inj eb
      obtain ⟨lk, hk⟩ := plL_at h5
      obtain ⟨nok, ok, oi, l20, okk⟩ := hok
      have hdep : cdepL ks + 1 ≤ n + 1 := hdep
      refine ⟨_, (pss_cons (ps_asg (pv 0) (pg_unl (by rfl) (pgs_cons (pg_name (i := 1) sc_w_made.nd rfl (Or.inl rfl)) (pgs_cons (pg_name (i := 2) sc_w_made.nd rfl (Or.inl rfl)) (pgs_cons (pg_name (i := 3) sc_w_made.nd rfl (Or.inl rfl)) (pgs_cons (pg_name (i := 4) sc_w_made.nd rfl (Or.inl rfl)) (pgs_cons (pg_name (i := 5) sc_w_made.nd rfl (Or.inl rfl)) pgs_nil)))))))
      (pss_cons (ps_set (i := 6) sc_w_made.nd rfl (Or.inl rfl) (pe_call (ok_w_look T) (hr.mono (by omega)) (by rfl) T.d_w_look.g T.d_w_look.F.kp T.d_w_look.b .nil pass0 (pa_cons (pv 3) pa_nil)))
      (pss_cons (ps_setLc (i := 7) (own := [("_law_one", 8)]) (g := gName 8) (by rfl) sc_w_made.nd rfl rfl (sw_true rfl rfl rfl (by decide +kernel)) (pi_listK (K := K) rfl (pv 5)) (blkOk_by (own := [("_law_one", 8)]) (N := N_w_made) (sc := defScope s_w_made) (by decide +kernel)) (fun _ _ _ _ _ => (pg_name (i := 8) sc_w_made.nd rfl (Or.inl rfl))) (fun _ _ _ _ _ => pts_nil) (fun _ _ _ _ _ => (pe_call ih (hr.mono (Nat.le_refl _)) (by rfl) T.d_w_made.g T.d_w_made.F.kp T.d_w_made.b .nil pass0 (pa_cons (pv 8) pa_nil))))
      (pss_cons (ps_if (pt_cmpR op_eq (pv 1) pe_str (nomark _))
      (pss_one (ps_ret (pe_makeK (n := 2) T.d_Words_init.mks (ok_Words_init T) (hr.mono (by omega)) (by rfl) T.c_Words.g (Classical.choose_spec (kb_Words_init_3_style T)) pass0 (pa_cons (pv 2) (pa_cons (pe_ix (ix_listK (K := K) rfl) (pv 4) pe_int (fun _ _ => rfl)) pa_nil)) (pk_cons (pv 6) pk_nil))))
      pss_nil)
      (pss_cons (ps_if (pt_cmpR op_eq (pv 1) pe_str (nomark _))
      (pss_one (ps_ret (pe_makeK (n := 3) T.d_Picture_init.mks (ok_Picture_init T) (hr.mono (by omega)) (by rfl) T.c_Picture.g (Classical.choose_spec (kb_Picture_init_4_style T)) pass0 (pa_cons (pv 2) (pa_cons (pe_ix (ix_listK (K := K) rfl) (pv 4) pe_int (fun _ _ => rfl)) (pa_cons (pe_ix (ix_listK (K := K) rfl) (pv 4) pe_int (fun _ _ => rfl)) pa_nil))) (pk_cons (pv 6) pk_nil))))
      pss_nil)
      (pss_cons (ps_if (pt_cmpR op_eq (pv 1) pe_str (nomark _))
      (pss_one (ps_ret (pe_makeK (n := 2) T.d_Row_init.mks (ok_Row_init T) (hr.mono (by omega)) (by rfl) T.c_Row.g (Classical.choose_spec (kb_Row_init_3_turn_gap_lane_pack_stands_style T)) pass0 (pa_cons (pv 2) (pa_cons (pv 7) pa_nil)) (pk_cons (pe_ix (ix_listK (K := K) rfl) (pv 4) pe_int (fun _ _ => rfl)) (pk_cons (pe_ix (ix_listK (K := K) rfl) (pv 4) pe_int (fun _ _ => rfl)) (pk_cons (pe_ix (ix_listK (K := K) rfl) (pv 4) pe_int (fun _ _ => rfl)) (pk_cons (pe_ix (ix_listK (K := K) rfl) (pv 4) pe_int (fun _ _ => rfl)) (pk_cons (pe_ix (ix_listK (K := K) rfl) (pv 4) pe_int (fun _ _ => rfl)) (pk_cons (pv 6) pk_nil)))))))))
      pss_nil)
      (pss_cons (ps_if (pt_cmpR op_eq (pv 1) pe_str (nomark _))
      (pss_one (ps_ret (pe_makeK (n := 2) T.d_Pile_init.mks (ok_Pile_init T) (hr.mono (by omega)) (by rfl) T.c_Pile.g (Classical.choose_spec (kb_Pile_init_3_gap_pack_stands_style T)) pass0 (pa_cons (pv 2) (pa_cons (pv 7) pa_nil)) (pk_cons (pe_ix (ix_listK (K := K) rfl) (pv 4) pe_int (fun _ _ => rfl)) (pk_cons (pe_ix (ix_listK (K := K) rfl) (pv 4) pe_int (fun _ _ => rfl)) (pk_cons (pe_ix (ix_listK (K := K) rfl) (pv 4) pe_int (fun _ _ => rfl)) (pk_cons (pv 6) pk_nil)))))))
      pss_nil)
      (pss_one (ps_ret (pe_makeK (n := 3) T.d_Grid_init.mks (ok_Grid_init T) (hr.mono (by omega)) (by rfl) T.c_Grid.g (Classical.choose_spec (kb_Grid_init_4_columns_rows_gap_lane_stands_style T)) pass0 (pa_cons (pv 2) (pa_cons (pv 7) (pa_cons (pe_callTy (call_listK (K := K) rfl) (by rfl) T.b_list (by decide +kernel) (pa_cons (pe_ix (ix_listK (K := K) rfl) (pv 4) pe_int (fun _ _ => rfl)) pa_nil)) pa_nil))) (pk_cons (pe_callTy (call_listK (K := K) rfl) (by rfl) T.b_list (by decide +kernel) (pa_cons (pe_ix (ix_listK (K := K) rfl) (pv 4) pe_int (fun _ _ => rfl)) pa_nil)) (pk_cons (pe_callTy (call_listK (K := K) rfl) (by rfl) T.b_list (by decide +kernel) (pa_cons (pe_ix (ix_listK (K := K) rfl) (pv 4) pe_int (fun _ _ => rfl)) pa_nil)) (pk_cons (pe_ix (ix_listK (K := K) rfl) (pv 4) pe_int (fun _ _ => rfl)) (pk_cons (pe_ix (ix_listK (K := K) rfl) (pv 4) pe_int (fun _ _ => rfl)) (pk_cons (pe_ix (ix_listK (K := K) rfl) (pv 4) pe_int (fun _ _ => rfl)) (pk_cons (pv 6) pk_nil)))))))))))))))), ?_⟩
      refine ⟨_, rfl, ?_⟩
      refine ⟨b, _, rfl, sqL h1, rfl, ?_⟩
      tm_at "rzs"
      intro y dy H1 s1 f1 g1
      dsimp only [gName]
      have h41 := s1 _ _ h4
      tm_at "rzs"
      refine ⟨⟨_, sqL h41⟩, fun D hD => lcLs (K := K) (α := V) (ys := xs) id (fun j v H' => ∃ (kk : CT) (a : At), ks[j]? = some kk ∧ v = .ref a.x ∧ a.ct = kk ∧ BoxAt (bcT T) T.c_Style.C K H' a) (fun j v Ha Hb acc ⟨kk, a, e1, e2, e3, p⟩ gD bb => ⟨kk, a, e1, e2, e3, p.ks (KeepS.refl.butL bb gD)⟩) hD (by rw [List.map_id]; exact sqL h41) (by omega) (fun j x H2 Kt Kf acc hx s2 gD kt => ?_) (fun us H2 s2 lus hus g2 => ?_)⟩
      · have hj : j < ks.length := by rw [← lk]; exact (List.getElem?_eq_some_iff.mp hx).1
        have ek : ks[j]? = some ks[j] := List.getElem?_eq_getElem hj
        have px := hk j x _ hx ek
        have dk := dep_at (List.mem_of_getElem? ek)
        have okj := okL_at okk _ (List.mem_of_getElem? ek)
        generalize ks[j] = kk at ek px dk okj
        obtain ⟨xb, rfl⟩ : ∃ xb, x = .ref xb := by
          cases kk with
          | mk a1 a2 a3 a4 => rw [PlAt] at px; obtain ⟨b, _, _, _, _, _, e, _⟩ := px; exact ⟨b, e⟩
        have s12 := s1.trans s2
        tm_at "rzs"
        cases n with
        | zero => exact absurd kk.dep_eq (by omega)
        | succ n =>
          unfold sp_w_made
          refine ⟨kk, xb, rfl, px.same s12 _ _, CtOk.ks (Same.ks s12) _ okj, by omega, fun a H3 s3 ea ba fa => ?_⟩
          exact kt _ _ s3 ⟨kk, a, ek, rfl, ea, ba⟩
      have lusk : us.length = ks.length := by rw [lus, lk]
      obtain ⟨as, rfl, eas, has⟩ := pick_at lusk hus
      have s02 := s1.trans s2
      have gy2 := s2 _ _ g1
      have ok2 := ok.same s02
      have st10 := ok.1
      have las : as.length = ks.length := by rw [← eas, List.length_map]
      have oi' : OwnI as.length ow := by rw [las]; exact oi
      have gd := oi'.good
      have ct : ∀ x, (At.mk x nm st ow as).ct = CT.mk nm st ow ks := fun x => by rw [At.ct, actL_map, eas]
      have h3' := h3.same s02
      dsimp only [gName]
      cases ow with
      | words t =>
        obtain rfl : as = [] := List.eq_nil_of_length_eq_zero (oi'.leaf (.inl rfl))
        have ho := h3'.2
        tm_at "rzs"
        intro bx dbx fbx fdbx nbx
        have smb := make_same (o := HO.own bx) (o' := HO.ins T.c_Words.C dbx []) fbx fdbx nbx
        have gy2' := gy2
        refine ⟨bx, dbx, nm, t, .ref y, rfl, upd_same, nok, gd.1, .inr ⟨y, dy, _, rfl, smb _ _ gy2', ok2.same smb⟩, fun H13 st' b13 si hb => ⟨rfl, ?_⟩⟩
        obtain rfl := styIs_eq (smb _ _ gy2') st10 (let ⟨_, _, _, _, _, _, _, _, _, _, o⟩ := hb.ob; o.1) si
        have s13 : Same H2 H13 := Same.mut' smb b13 fbx
        tm_at "rzs"
        exact k _ H13 (s02.trans s13) (ct bx) hb (s02.free fbx)
      | picture pa pd =>
        obtain rfl : as = [] := List.eq_nil_of_length_eq_zero (oi'.leaf (.inr rfl))
        have ho := h3'.2
        tm_at "rzs"
        intro bx dbx fbx fdbx nbx
        have smb := make_same (o := HO.own bx) (o' := HO.ins T.c_Picture.C dbx []) fbx fdbx nbx
        have gy2' := gy2
        refine ⟨bx, dbx, nm, pa, pd, .ref y, rfl, upd_same, nok, gd.1, gd.2, .inr ⟨y, dy, _, rfl, smb _ _ gy2', ok2.same smb⟩, fun H13 st' b13 si hb => ⟨rfl, ?_⟩⟩
        obtain rfl := styIs_eq (smb _ _ gy2') st10 (let ⟨_, _, _, _, _, _, _, _, _, _, o⟩ := hb.ob; o.1) si
        have s13 : Same H2 H13 := Same.mut' smb b13 fbx
        tm_at "rzs"
        exact k _ H13 (s02.trans s13) (ct bx) hb (s02.free fbx)
      | row turn gap lane pack stands =>
        have ho := h3'.2
        tm_at "rzs"
        intro bx dbx fbx fdbx nbx
        have smb := make_same (o := HO.own bx) (o' := HO.ins T.c_Row.C dbx []) fbx fdbx nbx
        have gy2' := gy2
        refine ⟨bx, dbx, D, nm, as, turn, gap, lane, pack, stands, .ref y, rfl, upd_same, nok, smb _ _ g2, by omega, fun a m => (has a m).ks (Same.ks smb), gd.1, gd.2.1, gd.2.2.1, gd.2.2.2, .inr ⟨y, dy, _, rfl, smb _ _ gy2', ok2.same smb⟩, fun H13 st' b13 si hb => ⟨rfl, ?_⟩⟩
        obtain rfl := styIs_eq (smb _ _ gy2') st10 (let ⟨_, _, _, _, _, _, _, _, _, _, o⟩ := hb.ob; o.1) si
        have s13 : Same H2 H13 := Same.mut' smb b13 fbx
        tm_at "rzs"
        exact k _ H13 (s02.trans s13) (ct bx) hb (s02.free fbx)
      | pile gap pack stands =>
        have ho := h3'.2
        tm_at "rzs"
        intro bx dbx fbx fdbx nbx
        have smb := make_same (o := HO.own bx) (o' := HO.ins T.c_Pile.C dbx []) fbx fdbx nbx
        have gy2' := gy2
        refine ⟨bx, dbx, D, nm, as, gap, pack, stands, .ref y, rfl, upd_same, nok, smb _ _ g2, by omega, fun a m => (has a m).ks (Same.ks smb), gd.1, gd.2.1, gd.2.2, .inr ⟨y, dy, _, rfl, smb _ _ gy2', ok2.same smb⟩, fun H13 st' b13 si hb => ⟨rfl, ?_⟩⟩
        obtain rfl := styIs_eq (smb _ _ gy2') st10 (let ⟨_, _, _, _, _, _, _, _, _, _, o⟩ := hb.ob; o.1) si
        have s13 : Same H2 H13 := Same.mut' smb b13 fbx
        tm_at "rzs"
        exact k _ H13 (s02.trans s13) (ct bx) hb (s02.free fbx)
      | grid sp ts us gap lane stands =>
        obtain ⟨c, t, u, ws, vs, zs, rfl, ho, q2, q3, q4, q5, q6, q7⟩ := h3'
        tm_at "rzs"
        refine ⟨_, _, rfl, .inl (sqL q2), fun p1 G1 fp1 sp1 gp1 => ?_⟩
        have ho1 := sp1 _ _ ho
        tm_at "rzs"
        refine ⟨_, _, rfl, .inl (sqL (sp1 _ _ q4)), fun p2 G2 fp2 sp2 gp2 => ?_⟩
        have s12' := sp1.trans sp2
        have ho2 := s12' _ _ ho
        tm_at "rzs"
        refine ⟨_, _, rfl, .inl (sqL (s12' _ _ q6)), fun p3 G3 fp3 sp3 gp3 => ?_⟩
        have s13' := s12'.trans sp3
        have ho3 := s13' _ _ ho
        tm_at "rzs"
        intro bx dbx fbx fdbx nbx
        have smb := make_same (o := HO.own bx) (o' := HO.ins T.c_Grid.C dbx []) fbx fdbx nbx
        have sG := s13'.trans smb
        have gy2' := sG _ _ gy2
        refine ⟨bx, dbx, D, p1, p2, p3, nm, as, ws, vs, zs, sp, ts, us, gap, lane, stands, .ref y, rfl, upd_same, nok, sG _ _ g2, by omega, fun a m => (has a m).ks (Same.ks sG), smb _ _ (sp3 _ _ (sp2 _ _ gp1)), (Same.ks sG).sps q3, gd.1, gd.2.1, smb _ _ (sp3 _ _ gp2), (Same.ks sG).tks q5, gd.2.2.1, gd.2.2.2.1, gd.2.2.2.2.1, smb _ _ gp3, (Same.ks sG).tks q7, gd.2.2.2.2.2.1, gd.2.2.2.2.2.2.1, gd.2.2.2.2.2.2.2.1, gd.2.2.2.2.2.2.2.2.1, gd.2.2.2.2.2.2.2.2.2.1, gd.2.2.2.2.2.2.2.2.2.2, .inr ⟨y, dy, _, rfl, gy2', ok2.same sG⟩, fun H13 st' b13 si hb => ⟨rfl, ?_⟩⟩
        obtain rfl := styIs_eq gy2' st10 (let ⟨_, _, _, _, _, _, _, _, _, _, o⟩ := hb.ob; o.1) si
        have s13 : Same G3 H13 := Same.mut' smb b13 fbx
        tm_at "rzs"
        exact k _ H13 ((s02.trans s13').trans s13) (ct bx) hb ((s02.trans s13').free fbx)
theorem ok_w_made (T : Tx w K mg) : FnOk P w K mg base CX0 20 T.d_w_made.f T.d_w_made.fd ["_law_box_here"] (sp_w_made (bcT T) T.c_Style.C K 11) := okr_w_made T 11
end
end My
namespace My
open PySem PySem.Spec PyProof.Rows L2
section
variable {P : Program} {w : World} {K : PySem.W.Frag} {mg : Str → Option Value} {base : Heap}
def sp_w_told (bc : Kd → Addr) (S : Addr) (K : PySem.W.Frag) : Nat → Sp
  | 0 => fun _ _ _ _ => False
  | n + 1 => fun vs H Q _ => ∃ (a : At), vs = [.ref a.x] ∧ BoxAt bc S K H a ∧ a.depth ≤ n + 1 ∧ ∀ (b : Addr) H', Same H H' → PlF (fun c => H c = none) H' a.ct (.ref b) → Q (.ref b) H'
theorem okr_w_told (T : Tx w K mg) : ∀ n : Nat, FnOk P w K mg base CX0 (n + 9) T.d_w_told.f T.d_w_told.fd ["_law_box_here"] (sp_w_told (bcT T) T.c_Style.C K n)
  | 0 => (show FnOk P w K mg base CX0 9 _ _ _ _ from T.d_w_told.F.ok (k := 8) (sp := fun _ _ _ _ => False) sc_w_told (fun vs H Q E h => h.elim) (fun cdv A outer s H vs Q E hr h => h.elim))
  | n + 1 => by
    have ih := okr_w_told T n
    refine T.d_w_told.F.ok (k := n + 9) sc_w_told (fun vs H Q E h => ?_) (fun cdv A outer s H vs Q E hr h => ?_)
    · obtain ⟨a, rfl, _⟩ := h
      rfl
    · obtain ⟨a, rfl, hb, hdep, k⟩ := h
      obtain ⟨dx, y, dy, fs, hx, ln, ls, hy, lh, nok, ok⟩ := hb.ob
      obtain ⟨w0, w1, w2, w3, w4, w5, w6, w7, w8, w9, eb⟩ := ten ok.1
      have hyw := hy
      rw [eb] at hyw
      refine ⟨_, (pss_cons (ps_set (i := 1) sc_w_told.nd rfl (Or.inl rfl) (pe_fldK (K := K) rfl (pv 0) rfl))
      (pss_cons (ps_set (i := 2) sc_w_told.nd rfl (Or.inl rfl) (pe_lstA (pa_cons (pe_fldK (K := K) rfl (pv 1) rfl) (pa_cons (pe_fldK (K := K) rfl (pv 1) rfl) (pa_cons (pe_fldK (K := K) rfl (pv 1) rfl) (pa_cons (pe_fldK (K := K) rfl (pv 1) rfl) (pa_cons (pe_fldK (K := K) rfl (pv 1) rfl) (pa_cons (pe_fldK (K := K) rfl (pv 1) rfl) pa_nil))))))))
      (pss_cons (ps_set (i := 2) sc_w_told.nd rfl (Or.inl rfl) (pe_op (op_catK (K := K) rfl) (pv 2) (pe_lstA (pa_cons (pe_fldK (K := K) rfl (pv 1) rfl) (pa_cons (pe_fldK (K := K) rfl (pv 1) rfl) (pa_cons (pe_fldK (K := K) rfl (pv 1) rfl) (pa_cons (pe_fldK (K := K) rfl (pv 1) rfl) pa_nil)))))))
      (pss_cons (ps_if (pt_val (pe_callB (call_isiK (K := K) rfl) (by rfl) T.b_isinstance (by decide +kernel) (pa_cons (pv 0) (pa_cons (pe_glob (v := .ref T.c_Words.C) (by rfl) T.c_Words.g rfl) pa_nil))))
      (pss_one (ps_ret (pe_lstA (pa_cons pe_str (pa_cons (pe_fldK (K := K) rfl (pv 0) rfl) (pa_cons (pv 2) (pa_cons (pe_lstA (pa_cons (pe_fldK (K := K) rfl (pv 0) rfl) pa_nil)) (pa_cons (pe_lstA pa_nil) pa_nil))))))))
      pss_nil)
      (pss_cons (ps_if (pt_val (pe_callB (call_isiK (K := K) rfl) (by rfl) T.b_isinstance (by decide +kernel) (pa_cons (pv 0) (pa_cons (pe_glob (v := .ref T.c_Picture.C) (by rfl) T.c_Picture.g rfl) pa_nil))))
      (pss_one (ps_ret (pe_lstA (pa_cons pe_str (pa_cons (pe_fldK (K := K) rfl (pv 0) rfl) (pa_cons (pv 2) (pa_cons (pe_lstA (pa_cons (pe_fldK (K := K) rfl (pv 0) rfl) (pa_cons (pe_fldK (K := K) rfl (pv 0) rfl) pa_nil))) (pa_cons (pe_lstA pa_nil) pa_nil))))))))
      pss_nil)
      (pss_cons (ps_setLc (i := 3) (own := [("_law_one", 5)]) (g := gName 5) (by rfl) sc_w_told.nd rfl rfl (sw_true rfl rfl rfl (by decide +kernel)) (pi_tupK (K := K) rfl (pe_fldK (K := K) rfl (pv 0) rfl)) (blkOk_by (own := [("_law_one", 5)]) (N := N_w_told) (sc := defScope s_w_told) (by decide +kernel)) (fun _ _ _ _ _ => (pg_name (i := 5) sc_w_told.nd rfl (Or.inl rfl))) (fun _ _ _ _ _ => pts_nil) (fun _ _ _ _ _ => (pe_call ih (hr.mono (Nat.le_refl _)) (by rfl) T.d_w_told.g T.d_w_told.F.kp T.d_w_told.b .nil pass0 (pa_cons (pv 5) pa_nil))))
      (pss_cons (ps_if (pt_val (pe_callB (call_isiK (K := K) rfl) (by rfl) T.b_isinstance (by decide +kernel) (pa_cons (pv 0) (pa_cons (pe_glob (v := .ref T.c_Row.C) (by rfl) T.c_Row.g rfl) pa_nil))))
      (pss_one (ps_ret (pe_lstA (pa_cons pe_str (pa_cons (pe_fldK (K := K) rfl (pv 0) rfl) (pa_cons (pv 2) (pa_cons (pe_lstA (pa_cons (pe_fldK (K := K) rfl (pv 0) rfl) (pa_cons (pe_fldK (K := K) rfl (pv 0) rfl) (pa_cons (pe_fldK (K := K) rfl (pv 0) rfl) (pa_cons (pe_fldK (K := K) rfl (pv 0) rfl) (pa_cons (pe_fldK (K := K) rfl (pv 0) rfl) pa_nil)))))) (pa_cons (pv 3) pa_nil))))))))
      pss_nil)
      (pss_cons (ps_if (pt_val (pe_callB (call_isiK (K := K) rfl) (by rfl) T.b_isinstance (by decide +kernel) (pa_cons (pv 0) (pa_cons (pe_glob (v := .ref T.c_Pile.C) (by rfl) T.c_Pile.g rfl) pa_nil))))
      (pss_one (ps_ret (pe_lstA (pa_cons pe_str (pa_cons (pe_fldK (K := K) rfl (pv 0) rfl) (pa_cons (pv 2) (pa_cons (pe_lstA (pa_cons (pe_fldK (K := K) rfl (pv 0) rfl) (pa_cons (pe_fldK (K := K) rfl (pv 0) rfl) (pa_cons (pe_fldK (K := K) rfl (pv 0) rfl) pa_nil)))) (pa_cons (pv 3) pa_nil))))))))
      pss_nil)
      (pss_cons (ps_set (i := 4) sc_w_told.nd rfl (Or.inl rfl) (pe_lstA (pa_cons (pe_callTy (call_listK (K := K) rfl) (by rfl) T.b_list (by decide +kernel) (pa_cons (pe_fldK (K := K) rfl (pv 0) rfl) pa_nil)) (pa_cons (pe_callTy (call_listK (K := K) rfl) (by rfl) T.b_list (by decide +kernel) (pa_cons (pe_fldK (K := K) rfl (pv 0) rfl) pa_nil)) (pa_cons (pe_callTy (call_listK (K := K) rfl) (by rfl) T.b_list (by decide +kernel) (pa_cons (pe_fldK (K := K) rfl (pv 0) rfl) pa_nil)) (pa_cons (pe_fldK (K := K) rfl (pv 0) rfl) (pa_cons (pe_fldK (K := K) rfl (pv 0) rfl) (pa_cons (pe_fldK (K := K) rfl (pv 0) rfl) pa_nil))))))))
      (pss_one (ps_ret (pe_lstA (pa_cons pe_str (pa_cons (pe_fldK (K := K) rfl (pv 0) rfl) (pa_cons (pv 2) (pa_cons (pv 4) (pa_cons (pv 3) pa_nil))))))))))))))))), ?_⟩
      tm_at "rzs"
      refine ⟨_, _, _, _, _, rfl, hx, (kdT T).cl _, (kdT T).sy _, ls, ?_⟩
      dsimp only [gName]
      tm_at "rzs"
      refine ⟨_, _, _, _, _, rfl, hyw, T.c_Style.cls, T.n_Style_wide, rfl, ?_⟩
      tm_at "rzs"
      refine ⟨_, _, _, _, _, rfl, hyw, T.c_Style.cls, T.n_Style_high, rfl, ?_⟩
      tm_at "rzs"
      refine ⟨_, _, _, _, _, rfl, hyw, T.c_Style.cls, T.n_Style_least_wide, rfl, ?_⟩
      tm_at "rzs"
      refine ⟨_, _, _, _, _, rfl, hyw, T.c_Style.cls, T.n_Style_least_high, rfl, ?_⟩
      tm_at "rzs"
      refine ⟨_, _, _, _, _, rfl, hyw, T.c_Style.cls, T.n_Style_most_wide, rfl, ?_⟩
      tm_at "rzs"
      refine ⟨_, _, _, _, _, rfl, hyw, T.c_Style.cls, T.n_Style_most_high, rfl, ?_⟩
      tm_at "rzs"
      intro p1 H1 f1 s1 g1
      dsimp only [gName]
      have hy1 := s1 _ _ hyw
      tm_at "rzs"
      refine ⟨_, _, _, _, _, rfl, hy1, T.c_Style.cls, T.n_Style_grow, rfl, ?_⟩
      tm_at "rzs"
      refine ⟨_, _, _, _, _, rfl, hy1, T.c_Style.cls, T.n_Style_shrink, rfl, ?_⟩
      tm_at "rzs"
      refine ⟨_, _, _, _, _, rfl, hy1, T.c_Style.cls, T.n_Style_rims, rfl, ?_⟩
      tm_at "rzs"
      refine ⟨_, _, _, _, _, rfl, hy1, T.c_Style.cls, T.n_Style_stand, rfl, ?_⟩
      tm_at "rzs"
      intro p2 H2 f2 s2 g2
      refine ⟨_, _, _, _, rfl, rfl, s2 _ _ g1, g2, Nat.le_of_ble_eq_true rfl, fun p3 H3 f3 s3 g3 => ?_⟩
      have s03 := (s1.trans s2).trans s3
      have g3 : H3 p3 = some (.lst a.st) := by rw [eb]; exact g3
      have hb3 := hb.ks (Same.ks s03)
      have hx3 := s03 _ _ hx
      dsimp only [gName]
      clear eb hyw hy1 g1 g2
      have f03 : H p3 = none := (s1.trans s2).free f3
      have hbc := hb3
      have kidH := hb.kid
      have fewH := hb.few
      clear hb hx hx3 hy ln ls lh nok ok
      cases hb3 with
      | words hx hy ok hn ht =>
        tm_at "rzs"
        refine ⟨_, _, _, _, _, rfl, .own _, hbc.tyx (kdT T), (kdT T).is_ _ .words, ?_⟩
        refine ⟨_, rfl, ?_⟩
        refine iteT' (by rfl) ?_
        tm_at "rzs"
        refine ⟨_, _, _, _, _, rfl, hx, T.c_Words.cls, T.n_Words_name, rfl, ?_⟩
        tm_at "rzs"
        refine ⟨_, _, _, _, _, rfl, hx, T.c_Words.cls, T.n_Words_text, rfl, ?_⟩
        tm_at "rzs"
        intro p4 H4 f4 s4 g4
        tm_at "rzs"
        intro p5 H5 f5 s5 g5
        tm_at "rzs"
        intro p6 H6 f6 s6 g6
        have s36 := (s4.trans s5).trans s6
        refine k p6 H6 (s03.trans s36) ?_
        rw [At.ct, actL, PlF]
        exact ⟨p6, p3, p4, p5, [], [], rfl, g6, s36 _ _ g3, ⟨rfl, s6 _ _ (s5 _ _ g4)⟩, s6 _ _ g5, by rw [PlFL], (s03.trans (s4.trans s5)).free f6, f03, s03.free f4, (s03.trans s4).free f5, fun c m => by cases m⟩
      | picture hx hy ok hn ha hd =>
        tm_at "rzs"
        refine ⟨_, _, _, _, _, rfl, .own _, hbc.tyx (kdT T), (kdT T).is_ _ .words, ?_⟩
        refine ⟨_, rfl, ?_⟩
        refine iteF' (by rfl) ?_
        tm_at "rzs"
        refine ⟨_, _, _, _, _, rfl, .own _, hbc.tyx (kdT T), (kdT T).is_ _ .picture, ?_⟩
        refine ⟨_, rfl, ?_⟩
        refine iteT' (by rfl) ?_
        tm_at "rzs"
        refine ⟨_, _, _, _, _, rfl, hx, T.c_Picture.cls, T.n_Picture_name, rfl, ?_⟩
        tm_at "rzs"
        refine ⟨_, _, _, _, _, rfl, hx, T.c_Picture.cls, T.n_Picture_across, rfl, ?_⟩
        tm_at "rzs"
        refine ⟨_, _, _, _, _, rfl, hx, T.c_Picture.cls, T.n_Picture_down, rfl, ?_⟩
        tm_at "rzs"
        intro p4 H4 f4 s4 g4
        tm_at "rzs"
        intro p5 H5 f5 s5 g5
        tm_at "rzs"
        intro p6 H6 f6 s6 g6
        have s36 := (s4.trans s5).trans s6
        refine k p6 H6 (s03.trans s36) ?_
        rw [At.ct, actL, PlF]
        exact ⟨p6, p3, p4, p5, [], [], rfl, g6, s36 _ _ g3, ⟨rfl, s6 _ _ (s5 _ _ g4)⟩, s6 _ _ g5, by rw [PlFL], (s03.trans (s4.trans s5)).free f6, f03, s03.free f4, (s03.trans s4).free f5, fun c m => by cases m⟩
      | @row x0 dx0 y0 dy0 bq nm0 turn0 gap0 lane0 pack0 stands0 st0' kids hx hy ok hn g0 l0 hb lk hk =>
        tm_at "rzs"
        refine ⟨_, _, _, _, _, rfl, .own _, hbc.tyx (kdT T), (kdT T).is_ _ .words, ?_⟩
        refine ⟨_, rfl, ?_⟩
        refine iteF' (by rfl) ?_
        tm_at "rzs"
        refine ⟨_, _, _, _, _, rfl, .own _, hbc.tyx (kdT T), (kdT T).is_ _ .picture, ?_⟩
        refine ⟨_, rfl, ?_⟩
        refine iteF' (by rfl) ?_
        tm_at "rzs"
        refine ⟨_, _, _, _, _, rfl, hx, T.c_Row.cls, T.n_Row_boxes, rfl, ?_⟩
        tm_at "rzs"
        refine ⟨⟨_, sqT hb⟩, fun D hD => lcTn (K := K) (fun k : At => V.ref k.x) (fun i v H' => ∃ (q : At) (b : Addr), kids[i]? = some q ∧ v = .ref b ∧ PlF (fun c => H c = none ∧ c ≠ D) H' q.ct (.ref b)) (fun i v Ha Hb acc ⟨q, b, e1, e2, p⟩ gD bb => ⟨q, b, e1, e2, p.but (fun c h => h.2) gD bb⟩) hD (sqT hb) (by omega) (fun i q H4 Kt Kf acc hq s4 gD kt => ?_) (fun us H4 s4 lus hus g4 => ?_)⟩
        · have mq := List.mem_of_getElem? hq
          have dq := depth_kid mq
          have hdep : depthL kids + 1 ≤ n + 1 := by rw [At.depth_eq] at hdep; exact hdep
          tm_at "rzs"
          cases n with
          | zero => exact absurd (q.depth_eq) (by omega)
          | succ n =>
            unfold sp_w_told
            refine ⟨q, rfl, (hk q mq).ks (Same.ks s4), by omega, fun b H5 s5 p5 => ?_⟩
            exact kt _ _ s5 ⟨q, b, hq, rfl, p5.mv (fun c hc => ⟨(s03.trans s4).free hc, (ne_of_none gD hc).symm⟩) KeepS.refl (fun _ _ _ g => g) _ _⟩
        have plf : PlFL (fun c => H c = none) H4 (actL kids) us := by
          rw [actL_map]
          refine plFL_of (by rw [lus, List.length_map]) fun i x k e1 e2 => ?_
          obtain ⟨q, b, e3, rfl, p⟩ := hus i x e1
          rw [List.getElem?_map, e3] at e2
          cases e2
          exact p.mv (fun c hc => hc.1) KeepS.refl (fun _ _ _ g => g) _ _
        have fD : H D = none := s03.free hD
        have s04 := s03.trans s4
        have hx4 := s4 _ _ hx
        have hbc4 := hbc.ks (Same.ks s4)
        dsimp only [gName]
        tm_at "rzs"
        refine ⟨_, _, _, _, _, rfl, .own _, hbc4.tyx (kdT T), (kdT T).is_ _ .row, ?_⟩
        refine ⟨_, rfl, ?_⟩
        refine iteT' (by rfl) ?_
        tm_at "rzs"
        refine ⟨_, _, _, _, _, rfl, hx4, T.c_Row.cls, T.n_Row_name, rfl, ?_⟩
        tm_at "rzs"
        refine ⟨_, _, _, _, _, rfl, hx4, T.c_Row.cls, T.n_Row_turn, rfl, ?_⟩
        tm_at "rzs"
        refine ⟨_, _, _, _, _, rfl, hx4, T.c_Row.cls, T.n_Row_gap, rfl, ?_⟩
        tm_at "rzs"
        refine ⟨_, _, _, _, _, rfl, hx4, T.c_Row.cls, T.n_Row_lane, rfl, ?_⟩
        tm_at "rzs"
        refine ⟨_, _, _, _, _, rfl, hx4, T.c_Row.cls, T.n_Row_pack, rfl, ?_⟩
        tm_at "rzs"
        refine ⟨_, _, _, _, _, rfl, hx4, T.c_Row.cls, T.n_Row_stands, rfl, ?_⟩
        tm_at "rzs"
        intro p5 H5 f5 s5 g5
        tm_at "rzs"
        intro p6 H6 f6 s6 g6
        have s46 := s5.trans s6
        refine k p6 H6 (s04.trans s46) ?_
        rw [At.ct, PlF]
        exact ⟨p6, p3, p5, D, [], us, rfl, g6, s46 _ _ (s4 _ _ g3), ⟨rfl, s6 _ _ g5⟩, s46 _ _ g4, plf.mv (fun _ h => h) (Same.ks s46) (fun a xs _ g => s46 _ _ g) _ _, (s04.trans s5).free f6, f03, s04.free f5, fD, fun c m => by cases m⟩
      | @pile x0 dx0 y0 dy0 bq nm0 gap0 pack0 stands0 st0' kids hx hy ok hn g0 hb lk hk =>
        tm_at "rzs"
        refine ⟨_, _, _, _, _, rfl, .own _, hbc.tyx (kdT T), (kdT T).is_ _ .words, ?_⟩
        refine ⟨_, rfl, ?_⟩
        refine iteF' (by rfl) ?_
        tm_at "rzs"
        refine ⟨_, _, _, _, _, rfl, .own _, hbc.tyx (kdT T), (kdT T).is_ _ .picture, ?_⟩
        refine ⟨_, rfl, ?_⟩
        refine iteF' (by rfl) ?_
        tm_at "rzs"
        refine ⟨_, _, _, _, _, rfl, hx, T.c_Pile.cls, T.n_Pile_boxes, rfl, ?_⟩
        tm_at "rzs"
        refine ⟨⟨_, sqT hb⟩, fun D hD => lcTn (K := K) (fun k : At => V.ref k.x) (fun i v H' => ∃ (q : At) (b : Addr), kids[i]? = some q ∧ v = .ref b ∧ PlF (fun c => H c = none ∧ c ≠ D) H' q.ct (.ref b)) (fun i v Ha Hb acc ⟨q, b, e1, e2, p⟩ gD bb => ⟨q, b, e1, e2, p.but (fun c h => h.2) gD bb⟩) hD (sqT hb) (by omega) (fun i q H4 Kt Kf acc hq s4 gD kt => ?_) (fun us H4 s4 lus hus g4 => ?_)⟩
        · have mq := List.mem_of_getElem? hq
          have dq := depth_kid mq
          have hdep : depthL kids + 1 ≤ n + 1 := by rw [At.depth_eq] at hdep; exact hdep
          tm_at "rzs"
          cases n with
          | zero => exact absurd (q.depth_eq) (by omega)
          | succ n =>
            unfold sp_w_told
            refine ⟨q, rfl, (hk q mq).ks (Same.ks s4), by omega, fun b H5 s5 p5 => ?_⟩
            exact kt _ _ s5 ⟨q, b, hq, rfl, p5.mv (fun c hc => ⟨(s03.trans s4).free hc, (ne_of_none gD hc).symm⟩) KeepS.refl (fun _ _ _ g => g) _ _⟩
        have plf : PlFL (fun c => H c = none) H4 (actL kids) us := by
          rw [actL_map]
          refine plFL_of (by rw [lus, List.length_map]) fun i x k e1 e2 => ?_
          obtain ⟨q, b, e3, rfl, p⟩ := hus i x e1
          rw [List.getElem?_map, e3] at e2
          cases e2
          exact p.mv (fun c hc => hc.1) KeepS.refl (fun _ _ _ g => g) _ _
        have fD : H D = none := s03.free hD
        have s04 := s03.trans s4
        have hx4 := s4 _ _ hx
        have hbc4 := hbc.ks (Same.ks s4)
        dsimp only [gName]
        tm_at "rzs"
        refine ⟨_, _, _, _, _, rfl, .own _, hbc4.tyx (kdT T), (kdT T).is_ _ .row, ?_⟩
        refine ⟨_, rfl, ?_⟩
        refine iteF' (by rfl) ?_
        tm_at "rzs"
        refine ⟨_, _, _, _, _, rfl, .own _, hbc4.tyx (kdT T), (kdT T).is_ _ .pile, ?_⟩
        refine ⟨_, rfl, ?_⟩
        refine iteT' (by rfl) ?_
        tm_at "rzs"
        refine ⟨_, _, _, _, _, rfl, hx4, T.c_Pile.cls, T.n_Pile_name, rfl, ?_⟩
        tm_at "rzs"
        refine ⟨_, _, _, _, _, rfl, hx4, T.c_Pile.cls, T.n_Pile_gap, rfl, ?_⟩
        tm_at "rzs"
        refine ⟨_, _, _, _, _, rfl, hx4, T.c_Pile.cls, T.n_Pile_pack, rfl, ?_⟩
        tm_at "rzs"
        refine ⟨_, _, _, _, _, rfl, hx4, T.c_Pile.cls, T.n_Pile_stands, rfl, ?_⟩
        tm_at "rzs"
        intro p5 H5 f5 s5 g5
        tm_at "rzs"
        intro p6 H6 f6 s6 g6
        have s46 := s5.trans s6
        refine k p6 H6 (s04.trans s46) ?_
        rw [At.ct, PlF]
        exact ⟨p6, p3, p5, D, [], us, rfl, g6, s46 _ _ (s4 _ _ g3), ⟨rfl, s6 _ _ g5⟩, s46 _ _ g4, plf.mv (fun _ h => h) (Same.ks s46) (fun a xs _ g => s46 _ _ g) _ _, (s04.trans s5).free f6, f03, s04.free f5, fD, fun c m => by cases m⟩
      | @grid x0 dx0 y0 dy0 bq pc0 pr0 ps0 nm0 sp0 cs0 rs0 gap0 lane0 stands0 st0' us0 vs0 ws0 kids hx hy ok hn g0 l0 hb lk hk hc tc oc nc hr tr or nr hs ts lsp lcs lrs =>
        tm_at "rzs"
        refine ⟨_, _, _, _, _, rfl, .own _, hbc.tyx (kdT T), (kdT T).is_ _ .words, ?_⟩
        refine ⟨_, rfl, ?_⟩
        refine iteF' (by rfl) ?_
        tm_at "rzs"
        refine ⟨_, _, _, _, _, rfl, .own _, hbc.tyx (kdT T), (kdT T).is_ _ .picture, ?_⟩
        refine ⟨_, rfl, ?_⟩
        refine iteF' (by rfl) ?_
        tm_at "rzs"
        refine ⟨_, _, _, _, _, rfl, hx, T.c_Grid.cls, T.n_Grid_boxes, rfl, ?_⟩
        tm_at "rzs"
        refine ⟨⟨_, sqT hb⟩, fun D hD => lcTn (K := K) (fun k : At => V.ref k.x) (fun i v H' => ∃ (q : At) (b : Addr), kids[i]? = some q ∧ v = .ref b ∧ PlF (fun c => H c = none ∧ c ≠ D) H' q.ct (.ref b)) (fun i v Ha Hb acc ⟨q, b, e1, e2, p⟩ gD bb => ⟨q, b, e1, e2, p.but (fun c h => h.2) gD bb⟩) hD (sqT hb) (by omega) (fun i q H4 Kt Kf acc hq s4 gD kt => ?_) (fun us H4 s4 lus hus g4 => ?_)⟩
        · have mq := List.mem_of_getElem? hq
          have dq := depth_kid mq
          have hdep : depthL kids + 1 ≤ n + 1 := by rw [At.depth_eq] at hdep; exact hdep
          tm_at "rzs"
          cases n with
          | zero => exact absurd (q.depth_eq) (by omega)
          | succ n =>
            unfold sp_w_told
            refine ⟨q, rfl, (hk q mq).ks (Same.ks s4), by omega, fun b H5 s5 p5 => ?_⟩
            exact kt _ _ s5 ⟨q, b, hq, rfl, p5.mv (fun c hc => ⟨(s03.trans s4).free hc, (ne_of_none gD hc).symm⟩) KeepS.refl (fun _ _ _ g => g) _ _⟩
        have plf : PlFL (fun c => H c = none) H4 (actL kids) us := by
          rw [actL_map]
          refine plFL_of (by rw [lus, List.length_map]) fun i x k e1 e2 => ?_
          obtain ⟨q, b, e3, rfl, p⟩ := hus i x e1
          rw [List.getElem?_map, e3] at e2
          cases e2
          exact p.mv (fun c hc => hc.1) KeepS.refl (fun _ _ _ g => g) _ _
        have fD : H D = none := s03.free hD
        have s04 := s03.trans s4
        have hx4 := s4 _ _ hx
        have hbc4 := hbc.ks (Same.ks s4)
        dsimp only [gName]
        tm_at "rzs"
        refine ⟨_, _, _, _, _, rfl, .own _, hbc4.tyx (kdT T), (kdT T).is_ _ .row, ?_⟩
        refine ⟨_, rfl, ?_⟩
        refine iteF' (by rfl) ?_
        tm_at "rzs"
        refine ⟨_, _, _, _, _, rfl, .own _, hbc4.tyx (kdT T), (kdT T).is_ _ .pile, ?_⟩
        refine ⟨_, rfl, ?_⟩
        refine iteF' (by rfl) ?_
        have s0 : Same H4 H4 := Same.refl _
        tm_at "rzs"
        refine ⟨_, _, _, _, _, rfl, s0 _ _ hx4, T.c_Grid.cls, T.n_Grid_spots, rfl, ?_⟩
        tm_at "rzs"
        refine ⟨_, _, rfl, .inr (sqT (s0 _ _ (s4 _ _ hs))), fun q1 G1 fq1 sq1 gq1 => ?_⟩
        tm_at "rzs"
        refine ⟨_, _, _, _, _, rfl, sq1 _ _ hx4, T.c_Grid.cls, T.n_Grid_columns, rfl, ?_⟩
        tm_at "rzs"
        refine ⟨_, _, rfl, .inr (sqT (sq1 _ _ (s4 _ _ hc))), fun q2 G2 fq2 sq2 gq2 => ?_⟩
        have sq12 := sq1.trans sq2
        tm_at "rzs"
        refine ⟨_, _, _, _, _, rfl, sq12 _ _ hx4, T.c_Grid.cls, T.n_Grid_rows, rfl, ?_⟩
        tm_at "rzs"
        refine ⟨_, _, rfl, .inr (sqT (sq12 _ _ (s4 _ _ hr))), fun q3 G3 fq3 sq3 gq3 => ?_⟩
        have sq13 := sq12.trans sq3
        tm_at "rzs"
        refine ⟨_, _, _, _, _, rfl, sq13 _ _ hx4, T.c_Grid.cls, T.n_Grid_gap, rfl, ?_⟩
        tm_at "rzs"
        refine ⟨_, _, _, _, _, rfl, sq13 _ _ hx4, T.c_Grid.cls, T.n_Grid_lane, rfl, ?_⟩
        tm_at "rzs"
        refine ⟨_, _, _, _, _, rfl, sq13 _ _ hx4, T.c_Grid.cls, T.n_Grid_stands, rfl, ?_⟩
        tm_at "rzs"
        intro p5 H5 f5 s5 g5
        dsimp only [gName]
        have s45 := sq13.trans s5
        tm_at "rzs"
        refine ⟨_, _, _, _, _, rfl, s45 _ _ hx4, T.c_Grid.cls, T.n_Grid_name, rfl, ?_⟩
        tm_at "rzs"
        intro p6 H6 f6 s6 g6
        have s46 := s45.trans s6
        have s06 := s04.trans s46
        have sG1 : Same G1 H6 := ((sq2.trans sq3).trans s5).trans s6
        have sG2 : Same G2 H6 := (sq3.trans s5).trans s6
        have sG3 : Same G3 H6 := s5.trans s6
        refine k p6 H6 s06 ?_
        rw [At.ct, PlF]
        refine ⟨p6, p3, p5, D, [q1, q2, q3], us, rfl, g6, s46 _ _ (s4 _ _ g3), ⟨q1, q2, q3, _, _, _, rfl, s6 _ _ g5, sG1 _ _ gq1, (Same.ks (s4.trans s46)).sps ts, sG2 _ _ gq2, (Same.ks (s4.trans s46)).tks tc, sG3 _ _ gq3, (Same.ks (s4.trans s46)).tks tr⟩, s46 _ _ g4, plf.mv (fun _ h => h) (Same.ks s46) (fun a xs _ g => s46 _ _ g) _ _, (s04.trans s45).free f6, f03, (s04.trans sq13).free f5, fD, fun c m => ?_⟩
        simp only [List.mem_cons, List.not_mem_nil, or_false] at m
        rcases m with rfl | rfl | rfl
        · exact s04.free fq1
        · exact (s04.trans sq1).free fq2
        · exact (s04.trans sq12).free fq3
theorem ok_w_told (T : Tx w K mg) : FnOk P w K mg base CX0 20 T.d_w_told.f T.d_w_told.fd ["_law_box_here"] (sp_w_told (bcT T) T.c_Style.C K 11) := okr_w_told T 11
end
end My
namespace My
open PySem PySem.Spec PyProof.Rows L2
section
variable {P : Program} {w : World} {K : PySem.W.Frag} {mg : Str → Option Value} {base : Heap}
def hoV : Option (List Nat) → V
  | none => .non
  | some l => .str (sO l)
def sp_w_order : Nat → Sp
  | 0 => fun _ _ _ _ => False
  | n + 1 => fun vs H Q _ => ∃ (t : CT) (b : Addr) (o : Option (List Nat)), vs = [.ref b, hoV o] ∧ PlAt H t (.ref b) ∧ t.dep ≤ n + 1 ∧ (t.pre (hoV o)).length ≤ 1000 ∧ ∀ (p : Addr) (xs : List V) H', Same H H' → H p = none → H' p = some (.lst xs) → OrsAt H' xs (t.pre (hoV o)) → Q (.ref p) H'
theorem okr_w_order (T : Tx w K mg) : ∀ n : Nat, FnOk P w K mg base CX0 (n + 1) T.d_w_order.f T.d_w_order.fd ["_law_box_here", "_law_holder"] (sp_w_order n)
  | 0 => (show FnOk P w K mg base CX0 1 _ _ _ _ from T.d_w_order.F.ok (k := 0) (sp := fun _ _ _ _ => False) sc_w_order (fun vs H Q E h => h.elim) (fun cdv A outer s H vs Q E hr h => h.elim))
  | n + 1 => by
    have ih := okr_w_order T n
    refine T.d_w_order.F.ok (k := n + 1) sc_w_order (fun vs H Q E h => ?_) (fun cdv A outer s H vs Q E hr h => ?_)
    · obtain ⟨t, b, o, rfl, _⟩ := h
      rfl
    · obtain ⟨t, b, oh, rfl, hp, hdep, hl, k⟩ := h
      rw [CT.dep_eq] at hdep
      rw [CT.pre_eq] at hl k
      have hp0 := hp
      cases t with
      | mk nm st ow ks =>
      rw [PlAt] at hp
      obtain ⟨b', vv, o, i, cs, xs, eb, h1, h2, h3, h4, h5⟩ := hp
      obtain rfl := V.ref.inj eb
      obtain ⟨lk, hk⟩ := plL_at h5
      have hdep : cdepL ks + 1 ≤ n + 1 := hdep
      have hl : (cpreL ks (.str (sO nm))).length + 1 ≤ 1000 := hl
      refine ⟨_, (pss_cons (ps_set (i := 2) sc_w_order.nd rfl (Or.inl rfl) (pe_lstA (pa_cons (pe_tupA (pa_cons (pv 0) (pa_cons (pv 1) pa_nil))) pa_nil)))
      (pss_cons (ps_for PassesOwn.never (by rfl) (pi_listK (K := K) rfl (pe_ix (ix_listK (K := K) rfl) (pv 0) pe_int (fun _ _ => rfl))) (pg_name (i := 3) sc_w_order.nd rfl (Or.inl rfl))
      (pss_one (ps_set (i := 2) sc_w_order.nd rfl (Or.inl rfl) (pe_op (op_catK (K := K) rfl) (pv 2) (pe_call ih (hr.mono (Nat.le_refl _)) (by rfl) T.d_w_order.g T.d_w_order.F.kp T.d_w_order.b .nil pass0 (pa_cons (pv 3) (pa_cons (pe_ix (ix_listK (K := K) rfl) (pv 0) pe_int (fun _ _ => rfl)) pa_nil)))))))
      (pss_one (ps_ret (pv 2))))), ?_⟩
      tm_at "rzs"
      intro q1 H1 f1 s1 g1
      tm_at "rzs"
      intro p2 H2 f2 s2 g2
      have s02 := s1.trans s2
      have h12 := s02 _ _ h1
      have h42 := s02 _ _ h4
      dsimp only [gName]
      tm_at "rzs"
      refine ⟨⟨_, sqL h42⟩, for_list (K := K) (a := i) (xs := xs) (fun j σ H' => ∃ (p : Addr) (acc : List V) (v3 : Option V), σ = [some (.ref b), some (hoV oh), some (.ref p), v3] ∧ Same H H' ∧ H p = none ∧ H' p = some (.lst acc) ∧ OrsAt H' acc ((CT.mk nm st ow ks, hoV oh) :: cpreL (ks.take j) (.str (sO nm))))
        ⟨p2, _, _, rfl, s02, s1.free f2, g2, ?_⟩ (fun j σ H' _ ⟨_, _, _, _, s, _⟩ => sqL (s _ _ h4)) ?_ ?_⟩
      · rw [List.take_zero, cpreL]
        exact OrsAt.one (s2 _ _ g1) (hp0.same s02 _ _)
      · rintro j x σ H3 hx ⟨p, acc, v3, rfl, s3, fp, gp, ho⟩
        have h13 := s3 _ _ h1
        have hj : j < ks.length := by rw [← lk]; exact (List.getElem?_eq_some_iff.mp hx).1
        have ek : ks[j]? = some ks[j] := List.getElem?_eq_getElem hj
        have px := hk j x _ hx ek
        have dk := dep_at (List.mem_of_getElem? ek)
        have pk := cpreL_snoc ek (.str (sO nm))
        generalize ks[j] = kk at ek px dk pk
        obtain ⟨xb, rfl⟩ : ∃ xb, x = .ref xb := by
          cases kk with
          | mk a1 a2 a3 a4 => rw [PlAt] at px; obtain ⟨b, _, _, _, _, _, e, _⟩ := px; exact ⟨b, e⟩
        dsimp only [gName]
        tm_at "rzs"
        dsimp only [tNil, List.cons_append, List.nil_append]
        have lle := cpreL_le ks (j + 1) (.str (sO nm))
        rw [pk, List.length_append] at lle
        have la : acc.length = 1 + (cpreL (ks.take j) (.str (sO nm))).length := by rw [ho.1, List.length_cons]; omega
        cases n with
        | zero => exact absurd dk (by rw [CT.dep_eq]; omega)
        | succ n =>
          unfold sp_w_order
          refine ⟨kk, xb, some nm, rfl, px.same s3 _ _, by omega, by show (kk.pre (.str (sO nm))).length ≤ 1000; omega, fun p' ys H4 s4 f4 g4 ho4 => ?_⟩
          have ho4 : OrsAt H4 ys (kk.pre (.str (sO nm))) := ho4
          refine ⟨_, _, _, _, rfl, rfl, s4 _ _ gp, g4, by rw [la, ho4.1, sizeLine_eq]; omega, fun p5 H5 f5 s5 g5 => ?_⟩
          have s35 := s4.trans s5
          refine ⟨p5, acc ++ ys, _, rfl, s3.trans s35, (s3.trans s4).free f5, g5, ?_⟩
          rw [pk, ← List.cons_append]
          exact (ho.same s35).app (ho4.same s5)
      · rintro σ H3 ⟨p, acc, v3, rfl, s3, fp, gp, ho⟩
        tm_at "rzs"
        rw [lk, List.take_length] at ho
        exact k p acc H3 s3 fp gp ho
theorem ok_w_order (T : Tx w K mg) : FnOk P w K mg base CX0 12 T.d_w_order.f T.d_w_order.fd ["_law_box_here", "_law_holder"] (sp_w_order 11) := okr_w_order T 11
end
end My
namespace My
open PySem PySem.Spec PyProof.Rows L2
section
variable {P : Program} {w : World} {K : PySem.W.Frag} {mg : Str → Option Value} {base : Heap}
def sp_ask (bc : Kd → Addr) (S cN : Addr) (K : PySem.W.Frag) : Sp := fun vs H Q E => ∃ (t : At) (v : V), vs = [.ref t.x, v] ∧ BoxAt bc S K H t ∧ t.depth ≤ 19 ∧ (t.pre .non).length ≤ 5000 ∧ TreeIn H t ∧ NoNm K H v ((t.pre .non).map (·.2.1)) ∧ ∀ H', Same H H' → E (.ref cN) none H'
def S_ask {w : World} (T : Tx w K mg) : Addr → Option Sp := fun a => if a = T.d_box_of.f ∨ a = T.d_holder_of.f then some (sp_ask (bcT T) T.c_Style.C T.e_NoName.C K) else none
theorem held__law_ask (T : Tx w K mg) : ∀ f sp, S_ask T f = some sp → HeldX P w K mg base (L2N.CX P w) 25 f sp := fun f sp h => by
  unfold S_ask at h
  split at h
  · next e =>
    cases h
    rcases e with rfl | rfl
    · exact ⟨_, _, (ok_box_of T).imp (fun vs H Q E ⟨t, v, e, b, d, l, o, n, k⟩ => ⟨t, v, e, b, d, l, o, .inr ⟨n, k⟩⟩), T.d_box_of.F.kp, T.d_box_of.b⟩
    · exact ⟨_, _, (ok_holder_of T).imp (fun vs H Q E ⟨t, v, e, b, d, l, o, n, k⟩ => ⟨t, v, e, b, d, l, o, .inr ⟨n, k⟩⟩), T.d_holder_of.F.kp, T.d_holder_of.b⟩
  · cases h
def sp_w_refused (bc : Kd → Addr) (S fb fh : Addr) (K : PySem.W.Frag) : Sp := fun vs H Q _ => ∃ (f : Addr) (t : At) (v : V), vs = [.ref f, .ref t.x, v] ∧ (f = fb ∨ f = fh) ∧ BoxAt bc S K H t ∧ t.depth ≤ 19 ∧ (t.pre .non).length ≤ 5000 ∧ TreeIn H t ∧ NoNm K H v ((t.pre .non).map (·.2.1)) ∧ ∀ H', Same H H' → Q (.bl true) H'
theorem ok_w_refused (T : Tx w K mg) : FnOk P w K mg base CX0 26 T.d_w_refused.f T.d_w_refused.fd ["_law_ask", "_law_tree_here", "_law_thing"] (sp_w_refused (bcT T) T.c_Style.C T.d_box_of.f T.d_holder_of.f K) := by
  refine T.d_w_refused.F.ok sc_w_refused (fun vs H Q E h => ?_) (fun cdv A outer s H vs Q E hr h => ?_)
  · obtain ⟨f, t, v, rfl, _⟩ := h
    rfl
  · obtain ⟨f, t, v, rfl, hf, hb, hd, hl, hok, hv, k⟩ := h
    refine ⟨_, (pss_cons (L2N.ps_try_as (i := 3) rfl rfl sc_w_refused.nd rfl rfl ⟨rfl, by decide, Or.inl T.e_NestError.g⟩ takes0N (fun W pn xe tk po =>
      (pss_one (ps_expr (pe_callAS (i := 0) (held__law_ask T) (hr.mono (by decide)) (by rfl) (Or.inl rfl) (fun σ => L2N.passAt tk σ) (pa_cons (pv 1) (pa_cons (pv 2) pa_nil))))))
      (fun a oe cls d pn hz hf =>
      (pss_cons (ps_set (i := 4) sc_w_refused.nd rfl (Or.inl rfl) (pe_lstA (pa_cons (pe_callB (call_isX hz.zc hf) (by rfl) T.b_isinstance (by decide +kernel) (pa_cons (pv 3) (pa_cons (pe_glob (v := .ref T.e_NoTree.C) (by rfl) T.e_NoTree.g rfl) pa_nil))) (pa_cons (pe_callB (call_isX hz.zc hf) (by rfl) T.b_isinstance (by decide +kernel) (pa_cons (pv 3) (pa_cons (pe_glob (v := .ref T.e_NoWord.C) (by rfl) T.e_NoWord.g rfl) pa_nil))) (pa_cons (pe_callB (call_isX hz.zc hf) (by rfl) T.b_isinstance (by decide +kernel) (pa_cons (pv 3) (pa_cons (pe_glob (v := .ref T.e_NoBox.C) (by rfl) T.e_NoBox.g rfl) pa_nil))) pa_nil)))))
      (pss_one (ps_ret (pe_and (pe_callB (call_isX hz.zc hf) (by rfl) T.b_isinstance (by decide +kernel) (pa_cons (pv 3) (pa_cons (pe_glob (v := .ref T.e_NoName.C) (by rfl) T.e_NoName.g rfl) pa_nil))) (pe_and (pe_callB (call_isX hz.zc hf) (by rfl) T.b_isinstance (by decide +kernel) (pa_cons (pv 3) (pa_cons (pe_bltn (v := .ty "ValueError") (by rfl) T.b_ValueError (by decide +kernel) rfl) pa_nil))) (pe_one (pe_not (pe_callB (cr_anyHK (K := K) (hot_suite hz hf) rfl) (by rfl) T.b_any (by decide +kernel) (pa_cons (pv 4) pa_nil)))))))))))
      (pss_one (ps_ret pe_bl))), ?_⟩
    have hS : S_ask T f = some (sp_ask (bcT T) T.c_Style.C T.e_NoName.C K) := by unfold S_ask; exact if_pos hf
    tm_at "rzs"
    intro H1 s1
    refine ⟨true, T.e_NestError.exm T.r_NoName, fun _ ae hae => ?_, fun q => Bool.noConfusion q⟩
    tm_at "rds"
    refine ⟨_, _, _, _, rfl, rfl, T.e_NoName.E, rfl, fun u r => r, T.e_NoName.kitC T.e_NoTree T.s_NoName T.i_NoTree, ?_⟩
    tm_at "rzs"
    refine ⟨_, _, _, _, rfl, rfl, T.e_NoName.E, rfl, fun u r => r, T.e_NoName.kitC T.e_NoWord T.s_NoName T.i_NoWord, ?_⟩
    tm_at "rzs"
    refine ⟨_, _, _, _, rfl, rfl, T.e_NoName.E, rfl, fun u r => r, T.e_NoName.kitC T.e_NoBox T.s_NoName T.i_NoBox, ?_⟩
    tm_at "rzs"
    intro p2 H2 f2 s2 g2
    tm_at "rzs"
    refine ⟨_, _, _, _, rfl, rfl, T.e_NoName.E, rfl, fun u r => r, T.e_NoName.kit T.e_NoName T.s_NoName T.s_NoName, ?_⟩
    tm_at "rzs"
    refine ⟨_, _, _, _, rfl, rfl, T.e_NoName.E, rfl, fun u r => r, T.e_NoName.kitT T.v_NoName, ?_⟩
    tm_at "rzs"
    refine ⟨p2, [false, false, false], rfl, sqL g2, ?_⟩
    tm_at "rzs"
    exact k H2 (s1.trans s2)
end
end My
namespace My
open PySem PySem.Spec PyProof.Rows L2
section
variable {P : Program} {w : World} {K : PySem.W.Frag} {mg : Str → Option Value} {base : Heap}
def keepB (ls : List (List Nat)) : V → Bool
  | .str z => !inV (.str z) (ls.map fun l => V.str (sO l))
  | _ => true
theorem kit_str (T : Tx w K mg) (kd : Kd) : PySem.W.kitOne K (.ref (bcT T kd)) (.type "str") = some false := by
  cases kd with
  | words => exact kit_ownT T.ks_Words
  | picture => exact kit_ownT T.ks_Picture
  | row => exact kit_ownT T.ks_Row
  | pile => exact kit_ownT T.ks_Pile
  | grid => exact kit_ownT T.ks_Grid
def sp_w_strange (bc : Kd → Addr) (S : Addr) (K : PySem.W.Frag) : Sp := fun vs H Q _ => ∃ (s p : Addr) (t : At) (ls : List (List Nat)), vs = [.ref s, .ref p, .ref t.x] ∧ Src H s ∧ p ≠ s ∧ H p = some (.lst (ls.map fun l => V.str (sO l))) ∧ 1 ≤ ls.length ∧ ls.length ≤ 40 ∧ (∀ l ∈ ls, NameOk l) ∧ BoxAt bc S K H t ∧
  ∀ (r : Addr) (us : List V) H', Dr s H H' → H' r = some (.lst us) → us.length ≤ 16 → (∀ v ∈ us, NoNm K H' v ls) → Q (.ref r) H'
theorem ok_w_strange (T : Tx w K mg) : FnOk P w K mg base CX0 3 T.d_w_strange.f T.d_w_strange.fd ["_law_source_here", "_law_names", "_law_made_here"] (sp_w_strange (bcT T) T.c_Style.C K) := by
  refine T.d_w_strange.F.ok sc_w_strange (fun vs H Q E h => ?_) (fun cdv A outer s H vs Q E hr h => ?_)
  · obtain ⟨s, p, t, ls, rfl, _⟩ := h
    rfl
  · obtain ⟨s, p, t, ls, rfl, hs, np, hp, l1, l40, lok, hb, k⟩ := h
    refine ⟨_, (pss_cons (ps_set (i := 3) sc_w_strange.nd rfl (Or.inl rfl) (pe_ix (ix_listK (K := K) rfl) (pv 1) (pe_call (ok_w_next T) (hr.mono (by decide)) (by rfl) T.d_w_next.g T.d_w_next.F.kp T.d_w_next.b .nil pass0 (pa_cons (pv 0) (pa_cons (pe_callB (call_lenK (K := K) rfl) (by rfl) T.b_len (by decide +kernel) (pa_cons (pv 1) pa_nil)) pa_nil))) (fun _ _ => rfl)))
      (pss_cons (ps_set (i := 4) sc_w_strange.nd rfl (Or.inl rfl) (pe_lstA (pa_cons pe_non (pa_cons pe_int (pa_cons pe_bl (pa_cons pe_str (pa_cons (pe_op op_add_str (pv 3) pe_str) (pa_cons (pe_slice sl_str (pv 3) po_none (po_some (pe_un un_neg pe_int))) (pa_cons (pe_upper (pv 3)) (pa_cons (pe_op op_add_str pe_str (pv 3)) (pa_cons (pe_op op_add_str (pv 3) pe_str) (pa_cons (pe_lstA (pa_cons (pv 3) pa_nil)) (pa_cons (pe_tupA (pa_cons (pv 3) pa_nil)) (pa_cons pe_dnewA pa_nil))))))))))))))
      (pss_cons (ps_set (i := 4) sc_w_strange.nd rfl (Or.inl rfl) (pe_op (op_catK (K := K) rfl) (pv 4) (pe_lstA (pa_cons (pv 2) (pa_cons pe_str (pa_cons (pe_call (ok_w_letters T) (hr.mono (by decide)) (by rfl) T.d_w_letters.g T.d_w_letters.F.kp T.d_w_letters.b .nil pass0 (pa_cons (pe_call (ok_w_next T) (hr.mono (by decide)) (by rfl) T.d_w_next.g T.d_w_next.F.kp T.d_w_next.b .nil pass0 (pa_cons (pv 0) (pa_cons (pe_op op_pow pe_int pe_int) pa_nil))) pa_nil)) (pa_cons pe_int pa_nil)))))))
      (pss_one (ps_ret (pe_lc (own := [("_law_thing", 5)]) (g := gName 5) (by rfl) sc_w_strange.nd (pi_listK (K := K) rfl (pv 4)) (blkOk_by (own := [("_law_thing", 5)]) (N := N_w_strange) (sc := defScope s_w_strange) (by decide +kernel)) (fun _ _ _ _ _ => (pg_name (i := 5) sc_w_strange.nd rfl (Or.inl rfl))) (fun _ _ _ _ _ => (pts_one (PW.pt (pw_or (pt_not (pt_val (pe_callB (call_isiK (K := K) rfl) (by rfl) T.b_isinstance (by decide +kernel) (pa_cons (pv 5) (pa_cons (pe_bltn (v := .ty "str") (by rfl) T.b_str (by decide +kernel) rfl) pa_nil))))) (pw_or1 (pt_cmpR (op_notInK (K := K) rfl) (pv 5) (pv 1) (by rfl))))))) (fun _ _ _ _ _ => (pv 5)))))))), ?_⟩
    tm_at "rzs"
    rw [List.length_map]
    refine ⟨by omega, by omega, fun n1 H1 d1 l1' u1 => ?_⟩
    obtain ⟨j, rfl⟩ := Int.eq_ofNat_of_zero_le l1'
    have hj : j < ls.length := by omega
    have hp1 := d1.app np hp
    refine ⟨_, _, _, _, rfl, rfl, sqL hp1, atI_nat (j := j) (v := .str (sO ls[j])) (by rw [List.getElem?_map, List.getElem?_eq_getElem hj]; rfl), ?_⟩
    have wok := lok _ (List.getElem_mem hj)
    generalize ls[j] = wd at wok
    have lw := wok.2.1
    dsimp only [gName]
    tm_at "rzs"
    have sz : (sO wd).length ≤ 8 := by rw [sO_len]; exact lw
    refine ⟨by rw [sizeLine_eq]; have : (Str.ofString "q").length = 1 := by decide +kernel
               omega, ?_⟩
    have s1e : (Str.ofString " ").length = 1 := by decide +kernel
    tm_at "rzs"
    refine ⟨by rw [sizeLine_eq]; omega, ?_⟩
    tm_at "rzs"
    refine ⟨⟨_, rfl⟩, _, rfl, rfl, by omega, ?_⟩
    tm_at "rzs"
    refine ⟨by rw [sizeLine_eq]; omega, ?_⟩
    tm_at "rzs"
    refine ⟨by rw [sizeLine_eq]; omega, ?_⟩
    tm_at "rzs"
    intro q2 H2 f2 s2 g2
    tm_at "rzs"
    intro q3 H3 f3 s3 g3
    tm_at "rzs"
    refine dnewc_i ?_
    intro q4 H4 f4 s4 g4
    tm_at "rzs"
    intro q5 H5 f5 s5 g5
    dsimp only [gName]
    tm_at "rzs"
    intro n6 H6 d6 l6 u6
    obtain ⟨n, rfl⟩ := Int.eq_ofNat_of_zero_le l6
    have e26 : ((26 : Int) ^ Int.toNat 5) = 11881376 := by decide +kernel
    rw [e26] at u6
    have d02 : Dr s H H5 := (((d1.same s2).same s3).same s4).same s5
    have d06 := d02.trans d6
    tm_at "rzs"
    intro q7 H7 f7 s7 g7
    have n5 : q5 ≠ s := (((d1.same s2).same s3).same s4).s.ne f5
    have n2 : q2 ≠ s := d1.s.ne f2
    have n3 : q3 ≠ s := (d1.same s2).s.ne f3
    have n4 : q4 ≠ s := ((d1.same s2).same s3).s.ne f4
    have g57 := s7 _ _ (d6.app n5 g5)
    refine ⟨_, _, _, _, rfl, rfl, g57, g7, Nat.le_of_ble_eq_true rfl, fun q8 H8 f8 s8 g8 => ?_⟩
    have s68 := s7.trans s8
    have d08 := d06.same s68
    have g28 := s68 _ _ (d6.app n2 (s5 _ _ (s4 _ _ (s3 _ _ g2))))
    have g38 := s68 _ _ (d6.app n3 (s5 _ _ (s4 _ _ g3)))
    have g48 := s68 _ _ (d6.app n4 (s5 _ _ g4))
    have hb8 := hb.ks (d08.ks hs)
    have hp8 := d08.app np hp
    dsimp only [gName]
    have plain : ∀ (v : V) (ty : String), (∀ H', Same H8 H' → Ty7 H' v ty) → kitB ty "str" = some false → keepB ls v = true → (∃ z, v = .str z) ∨ ∃ ty, (∀ H', Same H8 H' → TyX K H' v ty) ∧ PySem.W.kitOne K ty (.type "str") = some false ∧ keepB ls v = true := fun v ty h e b => .inr ⟨.type ty, fun H' s' => (h H' s').tx, kit_ty e, b⟩
    have all : ∀ v ∈ ([V.non, .int 0, .bl true, .str (Str.ofString ""), .str (sO wd ++ Str.ofString "q"), .str (cutS (sO wd) none (some (-1))), .str (Txt.upper (sO wd)), .str (Str.ofString " " ++ sO wd), .str (sO wd ++ Str.ofString " "), .ref q2, .ref q3, .ref q4] ++ [.ref t.x, .str (Str.ofString "nobody"), .str (sO (letL (n + 1))), .int 5] : List V), (∃ z, v = .str z) ∨ ∃ ty, (∀ H', Same H8 H' → TyX K H' v ty) ∧ PySem.W.kitOne K ty (.type "str") = some false ∧ keepB ls v = true := fun v m => by
      simp only [List.cons_append, List.nil_append, List.mem_cons, List.not_mem_nil, or_false] at m
      rcases m with rfl | rfl | rfl | rfl | rfl | rfl | rfl | rfl | rfl | rfl | rfl | rfl | rfl | rfl | rfl | rfl
      · exact plain _ _ (fun _ _ => .non) (by decide +kernel) rfl
      · exact plain _ _ (fun _ _ => .int _) (by decide +kernel) rfl
      · exact plain _ _ (fun _ _ => .bl _) (by decide +kernel) rfl
      · exact .inl ⟨_, rfl⟩
      · exact .inl ⟨_, rfl⟩
      · exact .inl ⟨_, rfl⟩
      · exact .inl ⟨_, rfl⟩
      · exact .inl ⟨_, rfl⟩
      · exact .inl ⟨_, rfl⟩
      · exact plain _ _ (fun H' s' => .lst (s' _ _ g28)) (by decide +kernel) rfl
      · exact plain _ _ (fun H' s' => .tup (s' _ _ g38)) (by decide +kernel) rfl
      · exact plain _ _ (fun H' s' => .dK (s' _ _ g48)) (by decide +kernel) rfl
      · exact .inr ⟨_, fun H' s' => (hb8.ks (Same.ks s')).tyx (kdT T), kit_str T _, rfl⟩
      · exact .inl ⟨_, rfl⟩
      · exact .inl ⟨_, rfl⟩
      · exact plain _ _ (fun _ _ => .int _) (by decide +kernel) rfl
    have l16 : ([V.non, .int 0, .bl true, .str (Str.ofString ""), .str (sO wd ++ Str.ofString "q"), .str (cutS (sO wd) none (some (-1))), .str (Txt.upper (sO wd)), .str (Str.ofString " " ++ sO wd), .str (sO wd ++ Str.ofString " "), .ref q2, .ref q3, .ref q4] ++ [.ref t.x, .str (Str.ofString "nobody"), .str (sO (letL (n + 1))), .int 5] : List V).length = 16 := rfl
    generalize ([V.non, .int 0, .bl true, .str (Str.ofString ""), .str (sO wd ++ Str.ofString "q"), .str (cutS (sO wd) none (some (-1))), .str (Txt.upper (sO wd)), .str (Str.ofString " " ++ sO wd), .str (sO wd ++ Str.ofString " "), .ref q2, .ref q3, .ref q4] ++ [.ref t.x, .str (Str.ofString "nobody"), .str (sO (letL (n + 1))), .int 5] : List V) = ths at g8 all l16
    tm_at "rzs"
    refine ⟨⟨_, sqL g8⟩, fun D hD => lcLxf (K := K) (xs := ths) (fun i => ths.getD i .non) (fun i => keepB ls (ths.getD i .non)) hD (sqL g8) (by omega) (fun i v H9 Kt Kf hv s9 kt kf => ?_) (fun H9 s9 g9 => ?_)⟩
    · have ev : ths.getD i .non = v := by rw [List.getD_eq_getElem?_getD, hv]; rfl
      rw [ev] at kt kf
      have hp9 := s9 _ _ hp8
      have mv : v ∈ ths := List.mem_of_getElem? hv
      rcases all v mv with ⟨z, rfl⟩ | ⟨ty, hty, hk, hb0⟩
      · tm_at "rzs"
        refine ⟨_, _, _, _, _, rfl, .ty _, Ty7.tx (Ty7.str _), kit_ty (r := true) (by decide +kernel), ?_⟩
        tm_at "rzs"
        refine ⟨p, _, rfl, .inl (sqL hp9), rfl, by simp [flatV], ?_⟩
        rw [if_pos rfl]
        cases hz : inV (.str z) (ls.map fun l => V.str (sO l)) with
        | true => refine ⟨_, rfl, ?_⟩; exact kf (by show (!inV _ _) = false; rw [hz]; rfl) H9 (.refl _)
        | false => refine ⟨_, rfl, ?_⟩; tm_at "rzs"; exact kt (by show (!inV _ _) = true; rw [hz]; rfl) H9 (.refl _)
      · tm_at "rzs"
        refine ⟨_, _, _, _, _, rfl, .ty _, hty _ s9, hk, ?_⟩
        tm_at "rzs"
        exact kt hb0 H9 (.refl _)
    refine k D _ H9 (d08.same s9) g9 ?_ fun v mv => ?_
    · have := List.length_filter_le (fun i => keepB ls (ths.getD i V.non)) (List.range ths.length)
      rw [List.length_range] at this
      rw [List.length_map]
      omega
    obtain ⟨i, mi, ev⟩ := List.mem_map.1 mv
    obtain ⟨mi1, mi2⟩ := List.mem_filter.1 mi
    rw [ev] at mi2
    have hi := List.mem_range.1 mi1
    have mv' : v ∈ ths := by
      rw [List.getD_eq_getElem?_getD, List.getElem?_eq_getElem hi] at ev
      have ev' : ths[i] = v := ev
      exact ev' ▸ List.getElem_mem hi
    rcases all v mv' with ⟨z, rfl⟩ | ⟨ty, hty, hk, hb0⟩
    · refine .inr ⟨z, rfl, fun l ml e => ?_⟩
      subst e
      have hz : (!inV (.str (sO l)) (ls.map fun l => V.str (sO l))) = true := mi2
      have : inV (.str (sO l)) (ls.map fun l => V.str (sO l)) = true := by
        unfold inV
        exact List.any_eq_true.2 ⟨_, List.mem_map.2 ⟨l, ml, rfl⟩, by simp [eqV]⟩
      rw [this] at hz
      cases hz
    · exact .inl ⟨ty, fun H' s' => hty H' (s9.trans s'), hk⟩
end
end My
namespace My
open PySem PySem.Spec PyProof.Rows L2
section
variable {P : Program} {w : World} {K : PySem.W.Frag} {mg : Str → Option Value} {base : Heap}
def sp_w_right (bc : Kd → Addr) (S : Addr) (K : PySem.W.Frag) : Sp := fun vs H Q _ => ∃ (b : Addr) (t : At), vs = [.ref b, .ref t.x] ∧ BoxAt bc S K H t ∧ t.depth ≤ 10 ∧ (t.pre .non).length ≤ 40 ∧ TreeIn H t ∧ PlAt H t.ct (.ref b) ∧ CtOk K H t.ct ∧ ∀ H', Same H H' → Q (.bl true) H'
theorem ok_w_right (T : Tx w K mg) : FnOk P w K mg base CX0 26 T.d_w_right.f T.d_w_right.fd ["_law_tree_here", "_law_made_here"] (sp_w_right (bcT T) T.c_Style.C K) := by
  refine T.d_w_right.F.ok sc_w_right (fun vs H Q E h => ?_) (fun cdv A outer s H vs Q E hr h => ?_)
  · obtain ⟨b, t, rfl, _⟩ := h
    rfl
  · obtain ⟨b, t, rfl, hb, hd, hl, hok, hp, hc, k⟩ := h
    refine ⟨_, (pss_cons (ps_set (i := 2) sc_w_right.nd rfl (Or.inl rfl) (pe_call (ok_w_order T) (hr.mono (by decide)) (by rfl) T.d_w_order.g T.d_w_order.F.kp T.d_w_order.b .nil pass0 (pa_cons (pv 0) (pa_cons pe_non pa_nil))))
      (pss_cons (ps_setLc (i := 5) (own := [("_law_box_here", 3), ("_law_holder", 4)]) (g := gTup K 2 (gCons (gName 3) (gCons (gName 4) gNil))) (by rfl) sc_w_right.nd rfl rfl (sw_true rfl rfl rfl (by decide +kernel)) (pi_listK (K := K) rfl (pv 2)) (blkOk_by (own := [("_law_box_here", 3), ("_law_holder", 4)]) (N := N_w_right) (sc := defScope s_w_right) (by decide +kernel)) (fun _ _ _ _ _ => (pg_tup (by rfl) (pgs_cons (pg_name (i := 3) sc_w_right.nd rfl (Or.inl rfl)) (pgs_cons (pg_name (i := 4) sc_w_right.nd rfl (Or.inl rfl)) pgs_nil)))) (fun _ _ _ _ _ => pts_nil) (fun _ _ _ _ _ => (pe_ix (ix_listK (K := K) rfl) (pv 3) pe_int (fun _ _ => rfl))))
      (pss_cons (ps_set (i := 6) sc_w_right.nd rfl (Or.inl rfl) (pe_call (ok_names_of T) (hr.mono (by decide)) (by rfl) T.d_names_of.g T.d_names_of.F.kp T.d_names_of.b .nil pass0 (pa_cons (pv 1) pa_nil)))
      (pss_cons (ps_if (PW.pt (pw_or (pt_not (pt_val (pe_callB is_list (by rfl) T.b_isinstance (by decide +kernel) (pa_cons (pv 6) (pa_cons (pe_bltn (v := .ty "list") (by rfl) T.b_list (by decide +kernel) rfl) pa_nil))))) (pw_or (pt_cmpR (op_neTxK (K := K) hr.units rfl) (pv 6) (pv 5) (nomark _)) (pw_or1 (pt_not (pt_val (pe_callB (cr_allK (K := K) rfl rfl) (by rfl) T.b_all (by decide +kernel) (pa_cons (pe_lc (own := [("_law_name_here", 7)]) (g := gName 7) (by rfl) sc_w_right.nd (pi_listK (K := K) rfl (pv 6)) (blkOk_by (own := [("_law_name_here", 7)]) (N := N_w_right) (sc := defScope s_w_right) (by decide +kernel)) (fun _ _ _ _ _ => (pg_name (i := 7) sc_w_right.nd rfl (Or.inl rfl))) (fun _ _ _ _ _ => pts_nil) (fun _ _ _ _ _ => (pe_callB is_str (by rfl) T.b_isinstance (by decide +kernel) (pa_cons (pv 7) (pa_cons (pe_bltn (v := .ty "str") (by rfl) T.b_str (by decide +kernel) rfl) pa_nil))))) pa_nil))))))))
      (pss_one (ps_ret pe_bl))
      pss_nil)
      (pss_cons (ps_expr (pe_bm0 PySem.F.plainAttrs_list PySem.F.slot_list_clear PySem.F.type_list_clear mt_clearA (pv 6)))
      (pss_cons (ps_for PassesOwn.never (by rfl) (pi_listK (K := K) rfl (pv 2)) (pg_tup (by rfl) (pgs_cons (pg_name (i := 3) sc_w_right.nd rfl (Or.inl rfl)) (pgs_cons (pg_name (i := 4) sc_w_right.nd rfl (Or.inl rfl)) pgs_nil)))
      (pss_cons (ps_if (PW.pt (pw_or (pt_cmpR (op_neDK (K := K) hr.units rfl) (pe_call (ok_w_told T) (hr.mono (by decide)) (by rfl) T.d_w_told.g T.d_w_told.F.kp T.d_w_told.b .nil pass0 (pa_cons (pe_call (ok_box_of T) (hr.mono (by decide)) (by rfl) T.d_box_of.g T.d_box_of.F.kp T.d_box_of.b .nil passLN (pa_cons (pv 1) (pa_cons (pe_ix (ix_listK (K := K) rfl) (pv 3) pe_int (fun _ _ => rfl)) pa_nil))) pa_nil)) (pv 3) (nomark _)) (pw_or1 (pt_cmpR op_ne (pe_call (ok_holder_of T) (hr.mono (by decide)) (by rfl) T.d_holder_of.g T.d_holder_of.F.kp T.d_holder_of.b .nil passLN (pa_cons (pv 1) (pa_cons (pe_ix (ix_listK (K := K) rfl) (pv 3) pe_int (fun _ _ => rfl)) pa_nil))) (pv 4) (nomark _)))))
      (pss_one (ps_ret pe_bl))
      pss_nil)
      (pss_one (ps_if (PW.pt (pw_and (pt_cmpR op_isN (pv 4) pe_non (nomark _)) (pw_and1 (pt_cmpR op_notN (pe_call (ok_holder_of T) (hr.mono (by decide)) (by rfl) T.d_holder_of.g T.d_holder_of.F.kp T.d_holder_of.b .nil passLN (pa_cons (pv 1) (pa_cons (pe_ix (ix_listK (K := K) rfl) (pv 3) pe_int (fun _ _ => rfl)) pa_nil))) pe_non (nomark _)))))
      (pss_one (ps_ret pe_bl))
      pss_nil))))
      (pss_one (ps_ret (pe_cmpR (op_eqTxK (K := K) hr.units rfl) (pe_call (ok_names_of T) (hr.mono (by decide)) (by rfl) T.d_names_of.g T.d_names_of.F.kp T.d_names_of.b .nil pass0 (pa_cons (pv 1) pa_nil)) (pv 5) (nomark _)))))))))), ?_⟩
    have hdc : t.ct.dep ≤ 10 := by rw [act_dep]; exact hd
    have hlc : (t.ct.pre .non).length ≤ 40 := by rw [act_len]; exact hl
    tm_at "rzs"
    refine ⟨t.ct, b, none, rfl, hp, (show t.ct.dep ≤ 10 + 1 by omega), by show (t.ct.pre .non).length ≤ 1000; omega, fun p1 xs H1 s1 f1 g1 ho1 => ?_⟩
    have ho1 : OrsAt H1 xs (t.ct.pre .non) := ho1
    have lxs : xs.length ≤ 40 := by rw [ho1.1]; exact hlc
    dsimp only [gName]
    tm_at "rzs"
    refine ⟨⟨_, sqL g1⟩, fun D hD => lcLx (K := K) (xs := xs) (fun i => V.str (sO (((t.ct.pre .non).map fun e => e.1.nm).getD i []))) hD (sqL g1) (by omega) (fun i v H2 Kt Kf hv s2 kt => ?_) (fun H2 s2 g2 => ?_)⟩
    · have hi : i < (t.ct.pre .non).length := by rw [← ho1.1]; exact (List.getElem?_eq_some_iff.mp hv).1
      have ee : (t.ct.pre .non)[i]? = some (t.ct.pre .non)[i] := List.getElem?_eq_getElem hi
      obtain ⟨q, x, rfl, gq, px⟩ := ho1.2 i v _ hv ee
      have en : ((t.ct.pre .non).map fun e => e.1.nm).getD i [] = (t.ct.pre .non)[i].1.nm := by rw [List.getD_eq_getElem?_getD, List.getElem?_map, ee]; rfl
      rw [en] at kt
      generalize (t.ct.pre .non)[i] = e at gq px kt
      obtain ⟨bb, vv, o, ii, rfl, gb⟩ := px.parts
      have gb2 := s2 _ _ gb
      refine ⟨q, _, rfl, sqT (s2 _ _ gq), rfl, ?_⟩
      tm_at "rzs"
      exact kt _ (Same.refl _)
    have g2 : H2 D = some (.lst (((t.ct.pre .non).map fun e => e.1.nm).map fun l => V.str (sO l))) := by
      rw [g2, ho1.1, ← List.length_map (f := fun e : CT × V => e.1.nm)]
      rw [range_all (fun l : List Nat => V.str (sO l)) [] _]
    rw [act_nms] at g2
    have s02 := s1.trans s2
    dsimp only [gName]
    tm_at "rzs"
    refine ⟨hb.ks (Same.ks s02), by omega, by omega, hok.ks (Same.ks s02), fun p3 H3 s3 f3 g3 => ?_⟩
    have s03 := s02.trans s3
    have nms_eq : nms (t.pre .non) = ((t.pre .non).map fun e => e.2.1).map fun l => V.str (sO l) := by unfold nms; rw [List.map_map]; rfl
    rw [nms_eq] at g3
    have g23 := s3 _ _ g2
    have lnm : ((t.pre .non).map fun e => e.2.1).length = (t.pre .non).length := List.length_map _
    dsimp only [gName]
    tm_at "rzs"
    refine ⟨p3, D, _, _, rfl, rfl, sqL g3, sqL g23, ?_⟩
    rw [decide_eq_true rfl]
    tm_at "rzs"
    refine ⟨⟨_, sqL g3⟩, fun D2 hD2 => lcLm (K := K) (fun l : List Nat => V.str (sO l)) (fun _ => V.bl true) (ys := (t.pre .non).map fun e => e.2.1) hD2 (sqL g3) (by omega) (fun i y H4 Kt Kf hy s4 kt => ?_) (fun H4 s4 g4 => ?_)⟩
    · tm_at "rzs"
      exact kt _ (Same.refl _)
    have g4 : H4 D2 = some (.lst ((((t.pre .non).map fun e => e.2.1).map fun _ => true).map V.bl)) := by rw [g4]; simp [Function.comp_def]
    tm_at "rzs"
    refine ⟨D2, _, rfl, sqL g4, ?_⟩
    rw [show ((((t.pre .non).map fun e => e.2.1).map fun _ => true).all id) = true by simp]
    tm_at "rzs"
    have g34 := s4 _ _ g3
    have s04 := s03.trans s4
    refine ⟨p3, _, rfl, rfl, g34, fun H5 b5 g5 => ?_⟩
    have s05 : Same H H5 := Same.mut' s04 b5 (s02.free f3)
    have s15 : Same H1 H5 := Same.mut' ((s2.trans s3).trans s4) b5 (s2.free f3)
    have gD5 : H5 D = some (.lst (((t.pre .non).map fun e => e.2.1).map fun l => V.str (sO l))) := Same.mut' (s3.trans s4) b5 f3 _ _ g2
    have ho5 := ho1.same s15
    tm_at "rzs"
    refine ⟨⟨_, sqL (s15 _ _ g1)⟩, for_list (K := K) (a := p1) (xs := xs) (fun i σ H' => ∃ (v3 v4 v7 : Option V), σ = [some (.ref b), some (.ref t.x), some (.ref p1), v3, v4, some (.ref D), some (.ref p3), v7] ∧ Same H5 H')
      ⟨_, _, _, rfl, Same.refl _⟩ (fun i σ H' _ ⟨_, _, _, _, s⟩ => sqL (s _ _ (s15 _ _ g1))) ?_ ?_⟩
    · rintro i v σ H6 hv ⟨v3, v4, v7, rfl, s6⟩
      have hi : i < (t.ct.pre .non).length := by rw [← ho1.1]; exact (List.getElem?_eq_some_iff.mp hv).1
      have ee : (t.ct.pre .non)[i]? = some (t.ct.pre .non)[i] := List.getElem?_eq_getElem hi
      obtain ⟨q, x, rfl, gq, px⟩ := (ho5.same s6).2 i v _ hv ee
      have me := List.getElem_mem hi
      have oke := okPre t.ct .non hc _ me
      have dpe := depPre t.ct .non _ me
      obtain ⟨bx, ⟨ea, en, eh⟩, mb, hex, ect, enm, eho, eax⟩ := pre_at ee
      generalize (t.ct.pre .non)[i] = e at gq px oke dpe ect eho
      obtain ⟨e1, e2⟩ := e
      obtain rfl : e1 = bx.ct := ect
      have mex := List.mem_of_getElem? hex
      have hho := pre_ho t .non _ mex
      obtain rfl : eh = e2 := eho
      obtain rfl : en = bx.nm := enm
      obtain rfl : ea = bx.x := eax
      have hho : eh = .non ∨ ∃ l, eh = .str (sO l) := hho
      have dpe : bx.ct.dep ≤ t.ct.dep := dpe
      have nmc : bx.ct.nm = bx.nm := by rw [At.ct_eq]; rfl
      obtain ⟨bb, vv, o, ii, rfl, gb⟩ := px.parts
      have s06 := s05.trans s6
      have hbb := box_all t hb bx mb
      obtain ⟨dd, cl, dp, dpp⟩ := pl_dp bx.ct oke
      have sh : SeqAt.shaped dd = true := by
        unfold SeqAt.shaped
        rw [cl]
        exact decide_eq_true (by omega)
      refine ⟨q, _, rfl, sqT gq, rfl, ?_⟩
      tm_at "rzs"
      refine ⟨hb.ks (Same.ks s06), by omega, by omega, hok.ks (Same.ks s06), .inl ⟨_, by rw [nmc], mex, fun H7 s7 => ?_⟩⟩
      have s07 := s06.trans s7
      tm_at "rzs"
      refine ⟨hbb.ks (Same.ks s07), (show bx.depth ≤ 10 + 1 by rw [← act_dep]; omega), fun b8 H8 s8 p8 => ?_⟩
      have s08 := s07.trans s8
      have gb8 := s8 _ _ (s7 _ _ gb)
      have px8 := (px.same s7 _ _).same s8 _ _
      tm_at "rzs"
      refine ⟨dd, dd, dpp H8 _ s08 (p8.pl _ _), dpp H8 _ s08 px8, sh, sh, ?_⟩
      rw [SeqAt.eqv_refl _ cl]
      tm_at "rzs"
      refine ⟨hb.ks (Same.ks s08), by omega, by omega, hok.ks (Same.ks s08), .inl ⟨_, by rw [nmc], mex, fun H9 s9 => ?_⟩⟩
      have s09 := s08.trans s9
      have gb9 := s9 _ _ gb8
      have s59 := ((s6.trans s7).trans s8).trans s9
      rcases hho with rfl | ⟨l, rfl⟩
      · tm_at "rzs"
        refine ⟨hb.ks (Same.ks s09), by omega, by omega, hok.ks (Same.ks s09), .inl ⟨_, by rw [nmc], mex, fun H10 s10 => ?_⟩⟩
        tm_at "rzs"
        exact ⟨_, _, _, rfl, s59.trans s10⟩
      · tm_at "rzs"
        refine iteF' (by simp) ?_
        tm_at "rzs"
        exact ⟨_, _, _, rfl, s59⟩
    · rintro σ H6 ⟨v3, v4, v7, rfl, s6⟩
      have s06 := s05.trans s6
      tm_at "rzs"
      refine ⟨hb.ks (Same.ks s06), by omega, by omega, hok.ks (Same.ks s06), fun p9 H9 s9 f9 g9 => ?_⟩
      rw [nms_eq] at g9
      tm_at "rzs"
      refine ⟨p9, D, _, _, rfl, rfl, sqL g9, sqL (s9 _ _ (s6 _ _ gD5)), ?_⟩
      rw [decide_eq_true rfl]
      exact k H9 (s06.trans s9)
end
end My
namespace My
open PySem PySem.Spec PyProof.Rows L2
section
variable {P : Program} {w : World} {K : PySem.W.Frag} {mg : Str → Option Value} {base : Heap}
def sp_law (K : PySem.W.Frag) : Sp := fun vs H Q _ => ∃ (a : Addr) (ns : List Int), vs = [.ref a] ∧ SqL K H a (ns.map V.int) ∧ ns.length ≤ 63 ∧ ∀ H', Q (.bl true) H'
theorem ok_law (T : Tx w K mg) : FnOk P w K mg base CX0 27 T.d_law.f T.d_law.fd ["_law_script"] (sp_law K) := by
  refine T.d_law.F.ok sc_law (fun vs H Q E h => ?_) (fun cdv A outer s H vs Q E hr h => ?_)
  · obtain ⟨a, s, rfl, _⟩ := h
    rfl
  · obtain ⟨a, ns, rfl, hS, hl, k⟩ := h
    refine ⟨_, (pss_cons (ps_set (i := 1) sc_law.nd rfl (Or.inl rfl) (pe_call (ok_w_source T) (hr.mono (by decide)) (by rfl) T.d_w_source.g T.d_w_source.F.kp T.d_w_source.b .nil pass0 (pa_cons (pe_call (ok_w_cell_at T) (hr.mono (by decide)) (by rfl) T.d_w_cell_at.g T.d_w_cell_at.F.kp T.d_w_cell_at.b .nil pass0 (pa_cons (pv 0) (pa_cons pe_int pa_nil))) pa_nil)))
      (pss_cons (ps_set (i := 2) sc_law.nd rfl (Or.inl rfl) (pe_op op_add pe_int (pe_call (ok_w_next T) (hr.mono (by decide)) (by rfl) T.d_w_next.g T.d_w_next.F.kp T.d_w_next.b .nil pass0 (pa_cons (pv 1) (pa_cons pe_int pa_nil)))))
      (pss_cons (ps_if (pt_cmpR op_eq (pe_call (ok_w_next T) (hr.mono (by decide)) (by rfl) T.d_w_next.g T.d_w_next.F.kp T.d_w_next.b .nil pass0 (pa_cons (pv 1) (pa_cons pe_int pa_nil))) pe_int (nomark _))
      (pss_one (ps_set (i := 2) sc_law.nd rfl (Or.inl rfl) (pe_op op_add pe_int (pe_call (ok_w_next T) (hr.mono (by decide)) (by rfl) T.d_w_next.g T.d_w_next.F.kp T.d_w_next.b .nil pass0 (pa_cons (pv 1) (pa_cons pe_int pa_nil))))))
      pss_nil)
      (pss_cons (ps_set (i := 3) sc_law.nd rfl (Or.inl rfl) (pe_call (ok_w_tree T) (hr.mono (by decide)) (by rfl) T.d_w_tree.g T.d_w_tree.F.kp T.d_w_tree.b .nil pass0 (pa_cons (pv 1) (pa_cons (pv 2) pa_nil))))
      (pss_cons (ps_set (i := 4) sc_law.nd rfl (Or.inl rfl) (pe_call (ok_w_made T) (hr.mono (by decide)) (by rfl) T.d_w_made.g T.d_w_made.F.kp T.d_w_made.b .nil pass0 (pa_cons (pv 3) pa_nil)))
      (pss_cons (ps_if (pt_not (pt_val (pe_call (ok_w_right T) (hr.mono (by decide)) (by rfl) T.d_w_right.g T.d_w_right.F.kp T.d_w_right.b .nil pass0 (pa_cons (pv 3) (pa_cons (pv 4) pa_nil)))))
      (pss_one (ps_ret pe_bl))
      pss_nil)
      (pss_cons (ps_setLc (i := 5) (own := [("_law_box_here", 10), ("_law_holder", 11)]) (g := gTup K 2 (gCons (gName 10) (gCons (gName 11) gNil))) (by rfl) sc_law.nd rfl rfl (sw_true rfl rfl rfl (by decide +kernel)) (pi_listK (K := K) rfl (pe_call (ok_w_order T) (hr.mono (by decide)) (by rfl) T.d_w_order.g T.d_w_order.F.kp T.d_w_order.b .nil pass0 (pa_cons (pv 3) (pa_cons pe_non pa_nil)))) (blkOk_by (own := [("_law_box_here", 10), ("_law_holder", 11)]) (N := N_law) (sc := defScope s_law) (by decide +kernel)) (fun _ _ _ _ _ => (pg_tup (by rfl) (pgs_cons (pg_name (i := 10) sc_law.nd rfl (Or.inl rfl)) (pgs_cons (pg_name (i := 11) sc_law.nd rfl (Or.inl rfl)) pgs_nil)))) (fun _ _ _ _ _ => pts_nil) (fun _ _ _ _ _ => (pe_ix (ix_listK (K := K) rfl) (pv 10) pe_int (fun _ _ => rfl))))
      (pss_cons (ps_for PassesOwn.never (by rfl) (pi_range1 (by rfl) T.b_range (pa_cons (pe_callB (call_max2 rfl) (by rfl) T.b_max (by decide +kernel) (pa_cons pe_int (pa_cons (pe_callB (call_min2 rfl) (by rfl) T.b_min (by decide +kernel) (pa_cons pe_int (pa_cons (pe_callB (call_lenK (K := K) rfl) (by rfl) T.b_len (by decide +kernel) (pa_cons (pv 0) pa_nil)) pa_nil))) pa_nil))) pa_nil)) (pg_name (i := 6) sc_law.nd rfl (Or.inl rfl))
      (pss_cons (ps_set (i := 7) sc_law.nd rfl (Or.inl rfl) (pe_call (ok_w_strange T) (hr.mono (by decide)) (by rfl) T.d_w_strange.g T.d_w_strange.F.kp T.d_w_strange.b .nil pass0 (pa_cons (pe_call (ok_w_source T) (hr.mono (by decide)) (by rfl) T.d_w_source.g T.d_w_source.F.kp T.d_w_source.b .nil pass0 (pa_cons (pe_call (ok_w_cell_at T) (hr.mono (by decide)) (by rfl) T.d_w_cell_at.g T.d_w_cell_at.F.kp T.d_w_cell_at.b .nil pass0 (pa_cons (pv 0) (pa_cons (pv 6) pa_nil))) pa_nil)) (pa_cons (pv 5) (pa_cons (pv 4) pa_nil)))))
      (pss_one (ps_for PassesOwn.never (by rfl) (pi_listK (K := K) rfl (pv 7)) (pg_name (i := 8) sc_law.nd rfl (Or.inl rfl))
      (pss_one (ps_if (PW.pt (pw_or (pt_not (pt_val (pe_call (ok_w_refused T) (hr.mono (by decide)) (by rfl) T.d_w_refused.g T.d_w_refused.F.kp T.d_w_refused.b .nil pass0 (pa_cons (pe_glob (v := .ref T.d_box_of.f) (by rfl) T.d_box_of.g rfl) (pa_cons (pv 4) (pa_cons (pv 8) pa_nil)))))) (pw_or1 (pt_not (pt_val (pe_call (ok_w_refused T) (hr.mono (by decide)) (by rfl) T.d_w_refused.g T.d_w_refused.F.kp T.d_w_refused.b .nil pass0 (pa_cons (pe_glob (v := .ref T.d_holder_of.f) (by rfl) T.d_holder_of.g rfl) (pa_cons (pv 4) (pa_cons (pv 8) pa_nil)))))))))
      (pss_one (ps_ret pe_bl))
      pss_nil))))))
      (pss_cons (ps_set (i := 9) sc_law.nd rfl (Or.inl rfl) (pe_call (ok_w_tree T) (hr.mono (by decide)) (by rfl) T.d_w_tree.g T.d_w_tree.F.kp T.d_w_tree.b .nil pass0 (pa_cons (pe_call (ok_w_source T) (hr.mono (by decide)) (by rfl) T.d_w_source.g T.d_w_source.F.kp T.d_w_source.b .nil pass0 (pa_cons (pe_call (ok_w_cell_at T) (hr.mono (by decide)) (by rfl) T.d_w_cell_at.g T.d_w_cell_at.F.kp T.d_w_cell_at.b .nil pass0 (pa_cons (pv 0) (pa_cons pe_int pa_nil))) pa_nil)) (pa_cons pe_int pa_nil))))
      (pss_one (ps_ret (pe_and (pe_call (ok_w_right T) (hr.mono (by decide)) (by rfl) T.d_w_right.g T.d_w_right.F.kp T.d_w_right.b .nil pass0 (pa_cons (pv 9) (pa_cons (pe_call (ok_w_made T) (hr.mono (by decide)) (by rfl) T.d_w_made.g T.d_w_made.F.kp T.d_w_made.b .nil pass0 (pa_cons (pv 9) pa_nil)) pa_nil))) (pe_one (pe_cmpR (op_eqTxK (K := K) hr.units rfl) (pe_call (ok_names_of T) (hr.mono (by decide)) (by rfl) T.d_names_of.g T.d_names_of.F.kp T.d_names_of.b .nil pass0 (pa_cons (pv 4) pa_nil)) (pv 5) (nomark _))))))))))))))), ?_⟩
    tm_at "rzs"
    refine ⟨a, ns, 0, rfl, hS, hl, fun z => ?_⟩
    tm_at "rzs"
    intro s H1 f1 s1 g1
    have hs1 : Src H1 s := ⟨_, g1⟩
    dsimp only [gName]
    tm_at "rzs"
    intro m2 H2 d2 l2 u2
    refine ⟨_, _, rfl, rfl, ?_⟩
    dsimp only [gName]
    refine seq_key (M := fun σ H' => ∃ (m : Int), σ = [some (.ref a), some (.ref s), some (.int m), none, none, none, none, none, none, none, none, none] ∧ 1 ≤ m ∧ m ≤ 40 ∧ Dr s H1 H') ?rest (fun NN hNN => ?stm)
    case stm =>
      tm_at "rzs"
      intro m3 H3 d3 l3 u3
      have d13 := d2.trans d3
      tm_at "rzs"
      refine ite2 (fun e => ?_) (fun e => ?_)
      · tm_at "rzs"
        intro m4 H4 d4 l4 u4
        refine ⟨_, _, rfl, rfl, ?_⟩
        exact hNN _ _ ⟨12 + m4, rfl, by omega, by omega, d13.trans d4⟩
      · exact hNN _ _ ⟨1 + m2, rfl, by omega, by omega, d13⟩
    rintro σ H3 ⟨m, rfl, lm, um, d13⟩
    tm_at "rzs"
    intro t H4 d4 tok tfr
    dsimp only [gName]
    tm_at "rzs"
    dsimp only [tNil, List.cons_append, List.nil_append]
    unfold sp_w_made
    refine ⟨t.ct, _, rfl, tok.pl, tok.ctok, (show t.ct.dep ≤ 10 + 1 by have := tok.cdeep; omega), fun b5 H5 s5 e5 hb5 fb5 => ?_⟩
    have tin5 := (tok.tin e5).ks (Same.ks s5)
    have dp5 := tok.deep e5
    have ln5 := tok.len e5
    have pl5 : PlAt H5 b5.ct (.ref t.n.b) := by rw [e5]; exact tok.pl.same s5 _ _
    have ok5 : CtOk K H5 b5.ct := by rw [e5]; exact CtOk.ks (Same.ks s5) _ tok.ctok
    have nmk := tok.nmok e5
    dsimp only [gName]
    tm_at "rzs"
    intro H6 s6
    tm_at "rzs"
    refine ⟨b5.ct, _, none, rfl, pl5.same s6 _ _, (show b5.ct.dep ≤ 10 + 1 by rw [act_dep]; omega), by show (b5.ct.pre .non).length ≤ 1000; rw [act_len]; omega, fun p7 xs H7 s7 f7 g7 ho7 => ?_⟩
    have ho7 : OrsAt H7 xs (b5.ct.pre .non) := ho7
    have lxs : xs.length ≤ 40 := by rw [ho7.1, act_len]; exact ln5
    dsimp only [gName]
    tm_at "rzs"
    refine ⟨⟨_, sqL g7⟩, fun D hD => lcLx (K := K) (xs := xs) (fun i => V.str (sO (((b5.ct.pre .non).map fun e => e.1.nm).getD i []))) hD (sqL g7) (by omega) (fun i v H2 Kt Kf hv s2 kt => ?_) (fun H8 s8 g8 => ?_)⟩
    · have hi : i < (b5.ct.pre .non).length := by rw [← ho7.1]; exact (List.getElem?_eq_some_iff.mp hv).1
      have ee : (b5.ct.pre .non)[i]? = some (b5.ct.pre .non)[i] := List.getElem?_eq_getElem hi
      obtain ⟨q, x, rfl, gq, px⟩ := ho7.2 i v _ hv ee
      have en : ((b5.ct.pre .non).map fun e => e.1.nm).getD i [] = (b5.ct.pre .non)[i].1.nm := by rw [List.getD_eq_getElem?_getD, List.getElem?_map, ee]; rfl
      rw [en] at kt
      generalize (b5.ct.pre .non)[i] = e at gq px kt
      obtain ⟨bb, vv, o, ii, rfl, gb⟩ := px.parts
      have gb2 := s2 _ _ gb
      refine ⟨q, _, rfl, sqT (s2 _ _ gq), rfl, ?_⟩
      tm_at "rzs"
      exact kt _ (Same.refl _)
    have g8 : H8 D = some (.lst (((b5.ct.pre .non).map fun e => e.1.nm).map fun l => V.str (sO l))) := by
      rw [g8, ho7.1, ← List.length_map (f := fun e : CT × V => e.1.nm)]
      rw [range_all (fun l : List Nat => V.str (sO l)) [] _]
    rw [act_nms] at g8
    have s58 := s6.trans (s7.trans s8)
    have hb8 := hb5.ks (Same.ks s58)
    have tin8 := tin5.ks (Same.ks s58)
    have lnm : ((b5.pre .non).map fun e => e.2.1).length = (b5.pre .non).length := List.length_map _
    have pos := pre_pos b5 .non
    have d18 := ((d13.trans d4).same s5).same s58
    have hS8 : SqL K H8 a (ns.map V.int) := (((ScrAt.of hS f1).same s1).but d18.b).seq
    tm_at "rzs"
    obtain ⟨N, hN, hN2⟩ : ∃ N : Nat, ((if (if (((ns.map V.int).length : Nat) : Int) < 3 then (((ns.map V.int).length : Nat) : Int) else 3) > 1 then (if (((ns.map V.int).length : Nat) : Int) < 3 then (((ns.map V.int).length : Nat) : Int) else 3) else 1) : Int).toNat = N ∧ N ≤ 3 := by
      refine ⟨_, rfl, ?_⟩
      split
      · split <;> omega
      · decide
    rw [hN]
    refine for_range (lo := 0) (n := N) (fun i σ H' => ∃ (v6 v7 v8 v9 v10 v11 : Option V), σ = [some (.ref a), some (.ref s), some (.int m), some (.ref t.n.b), some (.ref b5.x), some (.ref D), v6, v7, v8, v9, v10, v11] ∧ Same H8 H')
      ⟨_, _, _, _, _, _, rfl, Same.refl _⟩ ?_ ?_
    · rintro i σ H9 hi ⟨v6, v7, v8, v9, v10, v11, rfl, s9⟩
      dsimp only [gName]
      tm_at "rzs"
      refine ⟨a, ns, i, by rw [Int.zero_add]; rfl, Same.seq s9 hS8, hl, fun z => ?_⟩
      tm_at "rzs"
      intro q H10 f10 s10 g10
      have hq : Src H10 q := ⟨_, g10⟩
      have s810 := s9.trans s10
      have gD10 := s810 _ _ g8
      tm_at "rzs"
      dsimp only [tNil, List.cons_append, List.nil_append]
      unfold sp_w_strange
      refine ⟨q, D, b5, _, rfl, hq, ne_of_none (s9 _ _ g8) f10, gD10, by omega, by omega, nmk, hb8.ks (Same.ks s810), fun r us H11 d11 g11 lu hno => ?_⟩
      have s811 : Same H8 H11 := Same.mut' s810 d11.b (s9.free f10)
      dsimp only [gName]
      tm_at "rzs"
      refine ⟨⟨_, sqL g11⟩, for_list (K := K) (a := r) (xs := us) (fun j σ H' => ∃ (v8 v9 v10 v11 : Option V), σ = [some (.ref a), some (.ref s), some (.int m), some (.ref t.n.b), some (.ref b5.x), some (.ref D), some (.int (0 + (i : Int))), some (.ref r), v8, v9, v10, v11] ∧ Same H11 H')
        ⟨_, _, _, _, rfl, Same.refl _⟩ (fun j σ H' _ ⟨_, _, _, _, _, s⟩ => sqL (s _ _ g11)) ?_ ?_⟩
      · rintro j v σ H12 hv ⟨v8, v9, v10, v11, rfl, s12⟩
        have nv := (hno v (List.mem_of_getElem? hv)).same s12
        have s812 := s811.trans s12
        dsimp only [gName]
        tm_at "rzs"
        dsimp only [tNil, List.cons_append, List.nil_append]
        unfold sp_w_refused
        refine ⟨_, b5, v, rfl, .inl rfl, hb8.ks (Same.ks s812), by omega, by omega, tin8.ks (Same.ks s812), nv, fun H13 s13 => ?_⟩
        have s813 := s812.trans s13
        tm_at "rzs"
        dsimp only [tNil, List.cons_append, List.nil_append]
        refine ⟨_, b5, v, rfl, .inr rfl, hb8.ks (Same.ks s813), by omega, by omega, tin8.ks (Same.ks s813), nv.same s13, fun H14 s14 => ?_⟩
        tm_at "rzs"
        exact ⟨_, _, _, _, rfl, (s12.trans s13).trans s14⟩
      · rintro σ H12 ⟨v8, v9, v10, v11, rfl, s12⟩
        exact ⟨_, _, _, _, _, _, rfl, s811.trans s12⟩
    · rintro σ H9 ⟨v6, v7, v8, v9, v10, v11, rfl, s9⟩
      tm_at "rzs"
      refine ⟨a, ns, 1, rfl, Same.seq s9 hS8, hl, fun z => ?_⟩
      tm_at "rzs"
      intro q H10 f10 s10 g10
      have hq : Src H10 q := ⟨_, g10⟩
      have s810 := s9.trans s10
      tm_at "rzs"
      intro t2 H11 d11 tok2 tfr2
      have s811 : Same H8 H11 := Same.mut' s810 d11.b (s9.free f10)
      dsimp only [gName]
      tm_at "rzs"
      refine ⟨t2.ct, _, rfl, tok2.pl, tok2.ctok, (show t2.ct.dep ≤ 10 + 1 by have := tok2.cdeep; omega), fun c5 H12 s12 e12 hb12 fb12 => ?_⟩
      have s812 := s811.trans s12
      have tin12 := (tok2.tin e12).ks (Same.ks s12)
      have pl12 : PlAt H12 c5.ct (.ref t2.n.b) := by rw [e12]; exact tok2.pl.same s12 _ _
      have ok12 : CtOk K H12 c5.ct := by rw [e12]; exact CtOk.ks (Same.ks s12) _ tok2.ctok
      have dp12 := tok2.deep e12
      have ln12 := tok2.len e12
      tm_at "rzs"
      intro H13 s13
      have s813 := s812.trans s13
      tm_at "rzs"
      refine ⟨hb8.ks (Same.ks s813), by omega, by omega, tin8.ks (Same.ks s813), fun p14 H14 s14 f14 g14 => ?_⟩
      have nms_eq : nms (b5.pre .non) = ((b5.pre .non).map fun e => e.2.1).map fun l => V.str (sO l) := by unfold nms; rw [List.map_map]; rfl
      rw [nms_eq] at g14
      tm_at "rzs"
      refine ⟨p14, D, _, _, rfl, rfl, sqL g14, sqL (s14 _ _ (s813 _ _ g8)), ?_⟩
      rw [decide_eq_true rfl]
      exact k _
end
end My
namespace My
open PySem L2
theorem law_end {l : PySem.W.OpenLaw} {w : World} {K : PySem.W.Frag} {mg : Str → Option Value} {fa : Addr} (hfa : mg "law" = some (.ref fa)) (T : Tx w K mg) :
    ∃ fd : FuncData, (∀ (s : Shared) (v : Value), BindsTo s fd ⟨[v], []⟩ [("_law_script", v)]) ∧ ∀ base : Heap, K.In base → base.Ns mainGlobals mg → FnOk l.prog w K mg base CX0 27 fa fd ["_law_script"] (sp_law K) := by
  have e := hfa.symm.trans T.d_law.g
  cases e
  refine ⟨T.d_law.fd, fun s v => ?_, fun base _ _ => ok_law T⟩
  obtain ⟨oc, od, kV, doc, pm, an, cdv, ct, osl, e, _, _⟩ := T.d_law.F.ex
  rw [e]
  exact .of_eq rfl
end My
open PySem PySem.W PyProof.Rows
set_option maxRecDepth 100000 in
set_option maxHeartbeats 0 in
theorem PySem.Challenge.cw_nestlaid_k22_names_and_holders_holds : PySem.Challenge.rw_nestlaid_k22_names_and_holders.Holds := by
  refine MyHead.enter ?_
  k_fill
  refine L2.walk_of (l := PySem.Challenge.rw_nestlaid_k22_names_and_holders) (n := 63) (k := 27) (x := "_law_script") (CX := fun _ => L2.CX0) (sp := fun w => My.sp_law _) rfl (by decide) rfl ⟨rfl, by decide, by decide⟩ (fun w h Y => PySem.W.kIn_of Y) ?F (fun _ _ a ns hl _ hS => ⟨a, ns, rfl, hS, hl, fun _ => rfl⟩) (fun _ _ _ _ _ h => h)
  case F =>
    intro w mg fa h KX G hmg
    refine' My.law_end hmg { U_NO_RIMS := _, U_SIDES := _, U_STANDS := _, U_PACKS := _, U_LETTERS := _, U_LONGEST := _, c_Style := My.cl_mk KX G ?cStyle0 ?cStyle1 ?cStyle2 ?cStyle3 ?cStyle4, n_Style_wide := ?nStylewide, n_Style_high := ?nStylehigh, n_Style_least_wide := ?nStyleleast_wide, n_Style_least_high := ?nStyleleast_high, n_Style_most_wide := ?nStylemost_wide, n_Style_most_high := ?nStylemost_high, n_Style_grow := ?nStylegrow, n_Style_shrink := ?nStyleshrink, n_Style_rims := ?nStylerims, n_Style_stand := ?nStylestand, c_Box := My.cl_mk KX G ?cBox0 ?cBox1 ?cBox2 ?cBox3 ?cBox4, c_Words := My.cl_mk KX G ?cWords0 ?cWords1 ?cWords2 ?cWords3 ?cWords4, n_Words_name := ?nWordsname, n_Words_text := ?nWordstext, n_Words_style := ?nWordsstyle, c_Picture := My.cl_mk KX G ?cPicture0 ?cPicture1 ?cPicture2 ?cPicture3 ?cPicture4, n_Picture_name := ?nPicturename, n_Picture_across := ?nPictureacross, n_Picture_down := ?nPicturedown, n_Picture_style := ?nPicturestyle, c_Row := My.cl_mk KX G ?cRow0 ?cRow1 ?cRow2 ?cRow3 ?cRow4, n_Row_name := ?nRowname, n_Row_boxes := ?nRowboxes, n_Row_turn := ?nRowturn, n_Row_gap := ?nRowgap, n_Row_lane := ?nRowlane, n_Row_pack := ?nRowpack, n_Row_stands := ?nRowstands, n_Row_style := ?nRowstyle, c_Pile := My.cl_mk KX G ?cPile0 ?cPile1 ?cPile2 ?cPile3 ?cPile4, n_Pile_name := ?nPilename, n_Pile_boxes := ?nPileboxes, n_Pile_gap := ?nPilegap, n_Pile_pack := ?nPilepack, n_Pile_stands := ?nPilestands, n_Pile_style := ?nPilestyle, c_Grid := My.cl_mk KX G ?cGrid0 ?cGrid1 ?cGrid2 ?cGrid3 ?cGrid4, n_Grid_name := ?nGridname, n_Grid_boxes := ?nGridboxes, n_Grid_columns := ?nGridcolumns, n_Grid_rows := ?nGridrows, n_Grid_spots := ?nGridspots, n_Grid_gap := ?nGridgap, n_Grid_lane := ?nGridlane, n_Grid_stands := ?nGridstands, n_Grid_style := ?nGridstyle, c_Nest := My.cl_mk KX G ?cNest0 ?cNest1 ?cNest2 ?cNest3 ?cNest4, n_Nest_order := ?nNestorder, n_Nest_box_by := ?nNestbox_by, n_Nest_holder_by := ?nNestholder_by, d_is_whole := My.df_mk KX G ?a1 ?l1 ?c1 ?k1 (fun _ _ _ _ _ _ us hl => match us, hl with | [_], _ => rfl), d_is_count := My.df_mk KX G ?a2 ?l2 ?c2 ?k2 (fun _ _ _ _ _ _ us hl => match us, hl with | [_], _ => rfl), d_is_name := My.df_mk KX G ?a3 ?l3 ?c3 ?k3 (fun _ _ _ _ _ _ us hl => match us, hl with | [_], _ => rfl), d_is_share := My.df_mk KX G ?a4 ?l4 ?c4 ?k4 (fun _ _ _ _ _ _ us hl => match us, hl with | [_], _ => rfl), d_is_track := My.df_mk KX G ?a5 ?l5 ?c5 ?k5 (fun _ _ _ _ _ _ us hl => match us, hl with | [_], _ => rfl), d_are_tracks := My.df_mk KX G ?a6 ?l6 ?c6 ?k6 (fun _ _ _ _ _ _ us hl => match us, hl with | [_], _ => rfl), d_is_stretch := My.df_mk KX G ?a7 ?l7 ?c7 ?k7 (fun _ _ _ _ _ _ us hl => match us, hl with | [_, _, _], _ => rfl), d_is_spot := My.df_mk KX G ?a8 ?l8 ?c8 ?k8 (fun _ _ _ _ _ _ us hl => match us, hl with | [_, _, _], _ => rfl), d_apart := My.df_mk KX G ?a9 ?l9 ?c9 ?k9 (fun _ _ _ _ _ _ us hl => match us, hl with | [_, _], _ => rfl), d_may_stand := My.df_mk KX G ?a10 ?l10 ?c10 ?k10 (fun _ _ _ _ _ _ us hl => match us, hl with | [_, _, _, _], _ => rfl), d_are_spots := My.df_mk KX G ?a11 ?l11 ?c11 ?k11 (fun _ _ _ _ _ _ us hl => match us, hl with | [_, _, _, _], _ => rfl), d_is_part := My.df_mk KX G ?a12 ?l12 ?c12 ?k12 (fun _ _ _ _ _ _ us hl => match us, hl with | [_], _ => rfl), d_is_tie := My.df_mk KX G ?a13 ?l13 ?c13 ?k13 (fun _ _ _ _ _ _ us hl => match us, hl with | [_], _ => rfl), d_is_size := My.df_mk KX G ?a14 ?l14 ?c14 ?k14 (fun _ _ _ _ _ _ us hl => match us, hl with | [_], _ => rfl), d_is_bound := My.df_mk KX G ?a15 ?l15 ?c15 ?k15 (fun _ _ _ _ _ _ us hl => match us, hl with | [_], _ => rfl), d_is_rims := My.df_mk KX G ?a16 ?l16 ?c16 ?k16 (fun _ _ _ _ _ _ us hl => match us, hl with | [_], _ => rfl), d_Style_init := My.ini_mk ?iStyle_init0 ?iStyle_init1 ?iStyle_init2 ?iStyle_init3 ?iStyle_init4 ?iStyle_init5 ?iStyle_init6 (.cons ?wStyle_init0 ?xStyle_init0 (.cons ?wStyle_init1 ?xStyle_init1 (.cons ?wStyle_init2 ?xStyle_init2 (.cons ?wStyle_init3 ?xStyle_init3 (.cons ?wStyle_init4 ?xStyle_init4 (.cons ?wStyle_init5 ?xStyle_init5 (.cons ?wStyle_init6 ?xStyle_init6 (.cons ?wStyle_init7 ?xStyle_init7 (.cons ?wStyle_init8 ?xStyle_init8 (.cons ?wStyle_init9 ?xStyle_init9 .nil)))))))))), d_checked_name := My.df_mk KX G ?a17 ?l17 ?c17 ?k17 (fun _ _ _ _ _ _ us hl => match us, hl with | [_], _ => rfl), d_checked_style := My.df_mk KX G ?a18 ?l18 ?c18 ?k18 (fun _ _ _ _ _ _ us hl => match us, hl with | [_], _ => rfl), d_checked_boxes := My.df_mk KX G ?a19 ?l19 ?c19 ?k19 (fun _ _ _ _ _ _ us hl => match us, hl with | [_], _ => rfl), d_checked_gap := My.df_mk KX G ?a20 ?l20 ?c20 ?k20 (fun _ _ _ _ _ _ us hl => match us, hl with | [_], _ => rfl), d_checked_pack := My.df_mk KX G ?a21 ?l21 ?c21 ?k21 (fun _ _ _ _ _ _ us hl => match us, hl with | [_], _ => rfl), d_checked_stands := My.df_mk KX G ?a22 ?l22 ?c22 ?k22 (fun _ _ _ _ _ _ us hl => match us, hl with | [_], _ => rfl), d_Box_held_boxes := My.mt_mk ?mBox_held_boxes0 ?mBox_held_boxes1 ?mBox_held_boxes2 ?mBox_held_boxes3 ?mBox_held_boxes4 (fun _ _ _ _ _ _ us hl => match us, hl with | [_], _ => rfl), d_Words_init := My.ini_mk ?iWords_init0 ?iWords_init1 ?iWords_init2 ?iWords_init3 ?iWords_init4 ?iWords_init5 ?iWords_init6 (.cons ?wWords_init0 ?xWords_init0 .nil), d_Picture_init := My.ini_mk ?iPicture_init0 ?iPicture_init1 ?iPicture_init2 ?iPicture_init3 ?iPicture_init4 ?iPicture_init5 ?iPicture_init6 (.cons ?wPicture_init0 ?xPicture_init0 .nil), d_Row_init := My.ini_mk ?iRow_init0 ?iRow_init1 ?iRow_init2 ?iRow_init3 ?iRow_init4 ?iRow_init5 ?iRow_init6 (.cons ?wRow_init0 ?xRow_init0 (.cons ?wRow_init1 ?xRow_init1 (.cons ?wRow_init2 ?xRow_init2 (.cons ?wRow_init3 ?xRow_init3 (.cons ?wRow_init4 ?xRow_init4 (.cons ?wRow_init5 ?xRow_init5 .nil)))))), d_Row_held_boxes := My.mt_mk ?mRow_held_boxes0 ?mRow_held_boxes1 ?mRow_held_boxes2 ?mRow_held_boxes3 ?mRow_held_boxes4 (fun _ _ _ _ _ _ us hl => match us, hl with | [_], _ => rfl), d_Pile_init := My.ini_mk ?iPile_init0 ?iPile_init1 ?iPile_init2 ?iPile_init3 ?iPile_init4 ?iPile_init5 ?iPile_init6 (.cons ?wPile_init0 ?xPile_init0 (.cons ?wPile_init1 ?xPile_init1 (.cons ?wPile_init2 ?xPile_init2 (.cons ?wPile_init3 ?xPile_init3 .nil)))), d_Pile_held_boxes := My.mt_mk ?mPile_held_boxes0 ?mPile_held_boxes1 ?mPile_held_boxes2 ?mPile_held_boxes3 ?mPile_held_boxes4 (fun _ _ _ _ _ _ us hl => match us, hl with | [_], _ => rfl), d_Grid_init := My.ini_mk ?iGrid_init0 ?iGrid_init1 ?iGrid_init2 ?iGrid_init3 ?iGrid_init4 ?iGrid_init5 ?iGrid_init6 (.cons ?wGrid_init0 ?xGrid_init0 (.cons ?wGrid_init1 ?xGrid_init1 (.cons ?wGrid_init2 ?xGrid_init2 (.cons ?wGrid_init3 ?xGrid_init3 .nil)))), d_Grid_held_boxes := My.mt_mk ?mGrid_held_boxes0 ?mGrid_held_boxes1 ?mGrid_held_boxes2 ?mGrid_held_boxes3 ?mGrid_held_boxes4 (fun _ _ _ _ _ _ us hl => match us, hl with | [_], _ => rfl), d_add_boxes := My.df_mk KX G ?a23 ?l23 ?c23 ?k23 (fun _ _ _ _ _ _ us hl => match us, hl with | [_, _, _], _ => rfl), d_told_sizes := My.df_mk KX G ?a24 ?l24 ?c24 ?k24 (fun _ _ _ _ _ _ us hl => match us, hl with | [_], _ => rfl), d_Nest_init := My.ini0_mk ?iNest_init0 ?iNest_init1 ?iNest_init2 ?iNest_init3 ?iNest_init4 ?iNest_init5 ?iNest_init6 (fun _ _ _ _ _ _ us hl => match us, hl with | [_, _], _ => rfl), d_Nest_named := My.mt_mk ?mNest_named0 ?mNest_named1 ?mNest_named2 ?mNest_named3 ?mNest_named4 (fun _ _ _ _ _ _ us hl => match us, hl with | [_, _], _ => rfl), d_names_of := My.df_mk KX G ?a25 ?l25 ?c25 ?k25 (fun _ _ _ _ _ _ us hl => match us, hl with | [_], _ => rfl), d_box_of := My.df_mk KX G ?a26 ?l26 ?c26 ?k26 (fun _ _ _ _ _ _ us hl => match us, hl with | [_, _], _ => rfl), d_holder_of := My.df_mk KX G ?a27 ?l27 ?c27 ?k27 (fun _ _ _ _ _ _ us hl => match us, hl with | [_, _], _ => rfl), d_w_cell_at := My.df_mk KX G ?a28 ?l28 ?c28 ?k28 (fun _ _ _ _ _ _ us hl => match us, hl with | [_, _], _ => rfl), d_w_mixed := My.df_mk KX G ?a29 ?l29 ?c29 ?k29 (fun _ _ _ _ _ _ us hl => match us, hl with | [_, _], _ => rfl), d_w_source := My.df_mk KX G ?a30 ?l30 ?c30 ?k30 (fun _ _ _ _ _ _ us hl => match us, hl with | [_], _ => rfl), d_w_next := My.df_mk KX G ?a31 ?l31 ?c31 ?k31 (fun _ _ _ _ _ _ us hl => match us, hl with | [_, _], _ => rfl), d_w_letters := My.df_mk KX G ?a32 ?l32 ?c32 ?k32 (fun _ _ _ _ _ _ us hl => match us, hl with | [_], _ => rfl), d_w_name := My.df_mk KX G ?a33 ?l33 ?c33 ?k33 (fun _ _ _ _ _ _ us hl => match us, hl with | [_, _], _ => rfl), d_w_number := My.df_mk KX G ?a34 ?l34 ?c34 ?k34 (fun _ _ _ _ _ _ us hl => match us, hl with | [_], _ => rfl), d_w_signs := My.df_mk KX G ?a35 ?l35 ?c35 ?k35 (fun _ _ _ _ _ _ us hl => match us, hl with | [_], _ => rfl), d_w_track := My.df_mk KX G ?a36 ?l36 ?c36 ?k36 (fun _ _ _ _ _ _ us hl => match us, hl with | [_], _ => rfl), d_w_own := My.df_mk KX G ?a37 ?l37 ?c37 ?k37 (fun _ _ _ _ _ _ us hl => match us, hl with | [_, _], _ => rfl), d_w_box := My.df_mk KX G ?a38 ?l38 ?c38 ?k38 (fun _ _ _ _ _ _ us hl => match us, hl with | [_, _], _ => rfl), d_w_meet := My.df_mk KX G ?a39 ?l39 ?c39 ?k39 (fun _ _ _ _ _ _ us hl => match us, hl with | [_, _], _ => rfl), d_w_spot := My.df_mk KX G ?a40 ?l40 ?c40 ?k40 (fun _ _ _ _ _ _ us hl => match us, hl with | [_, _], _ => rfl), d_w_into := My.df_mk KX G ?a41 ?l41 ?c41 ?k41 (fun _ _ _ _ _ _ us hl => match us, hl with | [_, _, _], _ => rfl), d_w_size := My.df_mk KX G ?a42 ?l42 ?c42 ?k42 (fun _ _ _ _ _ _ us hl => match us, hl with | [_, _, _], _ => rfl), d_w_field := My.df_mk KX G ?a43 ?l43 ?c43 ?k43 (fun _ _ _ _ _ _ us hl => match us, hl with | [_, _, _, _], _ => rfl), d_w_tree := My.df_mk KX G ?a44 ?l44 ?c44 ?k44 (fun _ _ _ _ _ _ us hl => match us, hl with | [_, _], _ => rfl), d_w_look := My.df_mk KX G ?a45 ?l45 ?c45 ?k45 (fun _ _ _ _ _ _ us hl => match us, hl with | [_], _ => rfl), d_w_made := My.df_mk KX G ?a46 ?l46 ?c46 ?k46 (fun _ _ _ _ _ _ us hl => match us, hl with | [_], _ => rfl), d_w_told := My.df_mk KX G ?a47 ?l47 ?c47 ?k47 (fun _ _ _ _ _ _ us hl => match us, hl with | [_], _ => rfl), d_w_order := My.df_mk KX G ?a48 ?l48 ?c48 ?k48 (fun _ _ _ _ _ _ us hl => match us, hl with | [_, _], _ => rfl), d_w_refused := My.df_mk KX G ?a49 ?l49 ?c49 ?k49 (fun _ _ _ _ _ _ us hl => match us, hl with | [_, _, _], _ => rfl), d_w_strange := My.df_mk KX G ?a50 ?l50 ?c50 ?k50 (fun _ _ _ _ _ _ us hl => match us, hl with | [_, _, _], _ => rfl), d_w_right := My.df_mk KX G ?a51 ?l51 ?c51 ?k51 (fun _ _ _ _ _ _ us hl => match us, hl with | [_, _], _ => rfl), d_law := My.df_mk KX G ?a52 ?l52 ?c52 ?k52 (fun _ _ _ _ _ _ us hl => match us, hl with | [_], _ => rfl), b_ValueError := PySem.W.mg_none_of KX G ?z_ValueError, b_all := PySem.W.mg_none_of KX G ?z_all, b_any := PySem.W.mg_none_of KX G ?z_any, b_bool := PySem.W.mg_none_of KX G ?z_bool, b_enumerate := PySem.W.mg_none_of KX G ?z_enumerate, b_int := PySem.W.mg_none_of KX G ?z_int, b_isinstance := PySem.W.mg_none_of KX G ?z_isinstance, b_len := PySem.W.mg_none_of KX G ?z_len, b_list := PySem.W.mg_none_of KX G ?z_list, b_max := PySem.W.mg_none_of KX G ?z_max, b_min := PySem.W.mg_none_of KX G ?z_min, b_range := PySem.W.mg_none_of KX G ?z_range, b_str := PySem.W.mg_none_of KX G ?z_str, b_tuple := PySem.W.mg_none_of KX G ?z_tuple, v_SIDES := PySem.W.mg_of KX G ?v_SIDES, v_STANDS := PySem.W.mg_of KX G ?v_STANDS, v_PACKS := PySem.W.mg_of KX G ?v_PACKS, v_LETTERS := PySem.W.mg_of KX G ?v_LETTERS, v_LONGEST := PySem.W.mg_of KX G ?v_LONGEST, t_NO_RIMS := My.sqT_K ?tNO_RIMS0 ?tNO_RIMS1 ?tNO_RIMS2 ?tNO_RIMS3 ?tNO_RIMS4, t_SIDES := My.sqT_K ?tSIDES0 ?tSIDES1 ?tSIDES2 ?tSIDES3 ?tSIDES4, t_STANDS := My.sqT_K ?tSTANDS0 ?tSTANDS1 ?tSTANDS2 ?tSTANDS3 ?tSTANDS4, t_PACKS := My.sqT_K ?tPACKS0 ?tPACKS1 ?tPACKS2 ?tPACKS3 ?tPACKS4, r_LETTERS := ?r_LETTERS, r_LONGEST := ?r_LONGEST, wg := ?wg, wt := ?wt, wc_Words := ?wc_Words, wm_Words := ?wm_Words, wc_Picture := ?wc_Picture, wm_Picture := ?wm_Picture, wc_Row := ?wc_Row, wm_Row := ?wm_Row, wc_Pile := ?wc_Pile, wm_Pile := ?wm_Pile, wc_Grid := ?wc_Grid, wm_Grid := ?wm_Grid, wc_Style := ?wc_Style, wm_Style := ?wm_Style, kb_Words := My.kit_own ?kb_Words0 ?kb_Words1 ?kb_Words2 ?kb_Words3, ki_Words_Words := My.kit_own ?ki_Words_Words0 ?ki_Words_Words1 ?ki_Words_Words2 ?ki_Words_Words3, ki_Words_Picture := My.kit_own ?ki_Words_Picture0 ?ki_Words_Picture1 ?ki_Words_Picture2 ?ki_Words_Picture3, ki_Words_Row := My.kit_own ?ki_Words_Row0 ?ki_Words_Row1 ?ki_Words_Row2 ?ki_Words_Row3, ki_Words_Pile := My.kit_own ?ki_Words_Pile0 ?ki_Words_Pile1 ?ki_Words_Pile2 ?ki_Words_Pile3, ki_Words_Grid := My.kit_own ?ki_Words_Grid0 ?ki_Words_Grid1 ?ki_Words_Grid2 ?ki_Words_Grid3, kb_Picture := My.kit_own ?kb_Picture0 ?kb_Picture1 ?kb_Picture2 ?kb_Picture3, ki_Picture_Words := My.kit_own ?ki_Picture_Words0 ?ki_Picture_Words1 ?ki_Picture_Words2 ?ki_Picture_Words3, ki_Picture_Picture := My.kit_own ?ki_Picture_Picture0 ?ki_Picture_Picture1 ?ki_Picture_Picture2 ?ki_Picture_Picture3, ki_Picture_Row := My.kit_own ?ki_Picture_Row0 ?ki_Picture_Row1 ?ki_Picture_Row2 ?ki_Picture_Row3, ki_Picture_Pile := My.kit_own ?ki_Picture_Pile0 ?ki_Picture_Pile1 ?ki_Picture_Pile2 ?ki_Picture_Pile3, ki_Picture_Grid := My.kit_own ?ki_Picture_Grid0 ?ki_Picture_Grid1 ?ki_Picture_Grid2 ?ki_Picture_Grid3, kb_Row := My.kit_own ?kb_Row0 ?kb_Row1 ?kb_Row2 ?kb_Row3, ki_Row_Words := My.kit_own ?ki_Row_Words0 ?ki_Row_Words1 ?ki_Row_Words2 ?ki_Row_Words3, ki_Row_Picture := My.kit_own ?ki_Row_Picture0 ?ki_Row_Picture1 ?ki_Row_Picture2 ?ki_Row_Picture3, ki_Row_Row := My.kit_own ?ki_Row_Row0 ?ki_Row_Row1 ?ki_Row_Row2 ?ki_Row_Row3, ki_Row_Pile := My.kit_own ?ki_Row_Pile0 ?ki_Row_Pile1 ?ki_Row_Pile2 ?ki_Row_Pile3, ki_Row_Grid := My.kit_own ?ki_Row_Grid0 ?ki_Row_Grid1 ?ki_Row_Grid2 ?ki_Row_Grid3, kb_Pile := My.kit_own ?kb_Pile0 ?kb_Pile1 ?kb_Pile2 ?kb_Pile3, ki_Pile_Words := My.kit_own ?ki_Pile_Words0 ?ki_Pile_Words1 ?ki_Pile_Words2 ?ki_Pile_Words3, ki_Pile_Picture := My.kit_own ?ki_Pile_Picture0 ?ki_Pile_Picture1 ?ki_Pile_Picture2 ?ki_Pile_Picture3, ki_Pile_Row := My.kit_own ?ki_Pile_Row0 ?ki_Pile_Row1 ?ki_Pile_Row2 ?ki_Pile_Row3, ki_Pile_Pile := My.kit_own ?ki_Pile_Pile0 ?ki_Pile_Pile1 ?ki_Pile_Pile2 ?ki_Pile_Pile3, ki_Pile_Grid := My.kit_own ?ki_Pile_Grid0 ?ki_Pile_Grid1 ?ki_Pile_Grid2 ?ki_Pile_Grid3, kb_Grid := My.kit_own ?kb_Grid0 ?kb_Grid1 ?kb_Grid2 ?kb_Grid3, ki_Grid_Words := My.kit_own ?ki_Grid_Words0 ?ki_Grid_Words1 ?ki_Grid_Words2 ?ki_Grid_Words3, ki_Grid_Picture := My.kit_own ?ki_Grid_Picture0 ?ki_Grid_Picture1 ?ki_Grid_Picture2 ?ki_Grid_Picture3, ki_Grid_Row := My.kit_own ?ki_Grid_Row0 ?ki_Grid_Row1 ?ki_Grid_Row2 ?ki_Grid_Row3, ki_Grid_Pile := My.kit_own ?ki_Grid_Pile0 ?ki_Grid_Pile1 ?ki_Grid_Pile2 ?ki_Grid_Pile3, ki_Grid_Grid := My.kit_own ?ki_Grid_Grid0 ?ki_Grid_Grid1 ?ki_Grid_Grid2 ?ki_Grid_Grid3, ki_Style := My.kit_own ?ki_Style0 ?ki_Style1 ?ki_Style2 ?ki_Style3, mh_Words := ?mh_Words, mh_Picture := ?mh_Picture, e_NestError := My.ex_mk KX G ?eNestError0 ?eNestError1 ?eNestError2 ?eNestError3 ?eNestError4 ?eNestError5 ?eNestError6 ?eNestError7 ?eNestError8 ?eNestError9 ?eNestError10 ?eNestError11, e_NoName := My.ex_mk KX G ?eNoName0 ?eNoName1 ?eNoName2 ?eNoName3 ?eNoName4 ?eNoName5 ?eNoName6 ?eNoName7 ?eNoName8 ?eNoName9 ?eNoName10 ?eNoName11, r_NoName := ?r_NoName, s_NoName := ?s_NoName, v_NoName := ?v_NoName, e_NoTree := My.ec_mk KX G ?eNoTree0 ?eNoTree1 ?eNoTree2, i_NoTree := ?i_NoTree, e_NoWord := My.ec_mk KX G ?eNoWord0 ?eNoWord1 ?eNoWord2, i_NoWord := ?i_NoWord, e_NoBox := My.ec_mk KX G ?eNoBox0 ?eNoBox1 ?eNoBox2, i_NoBox := ?i_NoBox, ks_Words := ?ks_Words, ks_Picture := ?ks_Picture, ks_Row := ?ks_Row, ks_Pile := ?ks_Pile, ks_Grid := ?ks_Grid }
    (case cStyle0 => k_is)
    (case cStyle1 => k_is)
    (case cStyle2 => k_is)
    (case cStyle3 => k_is)
    (case cStyle4 => k_is)
    (case nStylewide => dsimp only [My.cl_mk]; k_is)
    (case nStylehigh => dsimp only [My.cl_mk]; k_is)
    (case nStyleleast_wide => dsimp only [My.cl_mk]; k_is)
    (case nStyleleast_high => dsimp only [My.cl_mk]; k_is)
    (case nStylemost_wide => dsimp only [My.cl_mk]; k_is)
    (case nStylemost_high => dsimp only [My.cl_mk]; k_is)
    (case nStylegrow => dsimp only [My.cl_mk]; k_is)
    (case nStyleshrink => dsimp only [My.cl_mk]; k_is)
    (case nStylerims => dsimp only [My.cl_mk]; k_is)
    (case nStylestand => dsimp only [My.cl_mk]; k_is)
    (case cBox0 => k_is)
    (case cBox1 => k_is)
    (case cBox2 => k_is)
    (case cBox3 => k_is)
    (case cBox4 => k_is)
    (case cWords0 => k_is)
    (case cWords1 => k_is)
    (case cWords2 => k_is)
    (case cWords3 => k_is)
    (case cWords4 => k_is)
    (case nWordsname => dsimp only [My.cl_mk]; k_is)
    (case nWordstext => dsimp only [My.cl_mk]; k_is)
    (case nWordsstyle => dsimp only [My.cl_mk]; k_is)
    (case cPicture0 => k_is)
    (case cPicture1 => k_is)
    (case cPicture2 => k_is)
    (case cPicture3 => k_is)
    (case cPicture4 => k_is)
    (case nPicturename => dsimp only [My.cl_mk]; k_is)
    (case nPictureacross => dsimp only [My.cl_mk]; k_is)
    (case nPicturedown => dsimp only [My.cl_mk]; k_is)
    (case nPicturestyle => dsimp only [My.cl_mk]; k_is)
    (case cRow0 => k_is)
    (case cRow1 => k_is)
    (case cRow2 => k_is)
    (case cRow3 => k_is)
    (case cRow4 => k_is)
    (case nRowname => dsimp only [My.cl_mk]; k_is)
    (case nRowboxes => dsimp only [My.cl_mk]; k_is)
    (case nRowturn => dsimp only [My.cl_mk]; k_is)
    (case nRowgap => dsimp only [My.cl_mk]; k_is)
    (case nRowlane => dsimp only [My.cl_mk]; k_is)
    (case nRowpack => dsimp only [My.cl_mk]; k_is)
    (case nRowstands => dsimp only [My.cl_mk]; k_is)
    (case nRowstyle => dsimp only [My.cl_mk]; k_is)
    (case cPile0 => k_is)
    (case cPile1 => k_is)
    (case cPile2 => k_is)
    (case cPile3 => k_is)
    (case cPile4 => k_is)
    (case nPilename => dsimp only [My.cl_mk]; k_is)
    (case nPileboxes => dsimp only [My.cl_mk]; k_is)
    (case nPilegap => dsimp only [My.cl_mk]; k_is)
    (case nPilepack => dsimp only [My.cl_mk]; k_is)
    (case nPilestands => dsimp only [My.cl_mk]; k_is)
    (case nPilestyle => dsimp only [My.cl_mk]; k_is)
    (case cGrid0 => k_is)
    (case cGrid1 => k_is)
    (case cGrid2 => k_is)
    (case cGrid3 => k_is)
    (case cGrid4 => k_is)
    (case nGridname => dsimp only [My.cl_mk]; k_is)
    (case nGridboxes => dsimp only [My.cl_mk]; k_is)
    (case nGridcolumns => dsimp only [My.cl_mk]; k_is)
    (case nGridrows => dsimp only [My.cl_mk]; k_is)
    (case nGridspots => dsimp only [My.cl_mk]; k_is)
    (case nGridgap => dsimp only [My.cl_mk]; k_is)
    (case nGridlane => dsimp only [My.cl_mk]; k_is)
    (case nGridstands => dsimp only [My.cl_mk]; k_is)
    (case nGridstyle => dsimp only [My.cl_mk]; k_is)
    (case cNest0 => k_is)
    (case cNest1 => k_is)
    (case cNest2 => k_is)
    (case cNest3 => k_is)
    (case cNest4 => k_is)
    (case nNestorder => dsimp only [My.cl_mk]; k_is)
    (case nNestbox_by => dsimp only [My.cl_mk]; k_is)
    (case nNestholder_by => dsimp only [My.cl_mk]; k_is)
    (case a1 => k_is)
    (case l1 => k_is)
    (case c1 => k_is)
    (case k1 => k_is)
    (case a2 => k_is)
    (case l2 => k_is)
    (case c2 => k_is)
    (case k2 => k_is)
    (case a3 => k_is)
    (case l3 => k_is)
    (case c3 => k_is)
    (case k3 => k_is)
    (case a4 => k_is)
    (case l4 => k_is)
    (case c4 => k_is)
    (case k4 => k_is)
    (case a5 => k_is)
    (case l5 => k_is)
    (case c5 => k_is)
    (case k5 => k_is)
    (case a6 => k_is)
    (case l6 => k_is)
    (case c6 => k_is)
    (case k6 => k_is)
    (case a7 => k_is)
    (case l7 => k_is)
    (case c7 => k_is)
    (case k7 => k_is)
    (case a8 => k_is)
    (case l8 => k_is)
    (case c8 => k_is)
    (case k8 => k_is)
    (case a9 => k_is)
    (case l9 => k_is)
    (case c9 => k_is)
    (case k9 => k_is)
    (case a10 => k_is)
    (case l10 => k_is)
    (case c10 => k_is)
    (case k10 => k_is)
    (case a11 => k_is)
    (case l11 => k_is)
    (case c11 => k_is)
    (case k11 => k_is)
    (case a12 => k_is)
    (case l12 => k_is)
    (case c12 => k_is)
    (case k12 => k_is)
    (case a13 => k_is)
    (case l13 => k_is)
    (case c13 => k_is)
    (case k13 => k_is)
    (case a14 => k_is)
    (case l14 => k_is)
    (case c14 => k_is)
    (case k14 => k_is)
    (case a15 => k_is)
    (case l15 => k_is)
    (case c15 => k_is)
    (case k15 => k_is)
    (case a16 => k_is)
    (case l16 => k_is)
    (case c16 => k_is)
    (case k16 => k_is)
    (case iStyle_init0 => dsimp only [My.cl_mk]; k_is)
    (case iStyle_init1 => (try dsimp only [My.cl_mk]); k_is)
    (case iStyle_init2 => (try dsimp only [My.cl_mk]); k_is)
    (case iStyle_init3 => (try dsimp only [My.cl_mk]); k_is)
    (case iStyle_init4 => (try dsimp only [My.cl_mk]); k_is)
    (case iStyle_init5 => (try dsimp only [My.cl_mk]); k_is)
    (case iStyle_init6 => (try dsimp only [My.cl_mk]); k_is)
    (case wStyle_init0 => k_is)
    (case xStyle_init0 => first | exact rfl | exact ⟨_, rfl⟩)
    (case wStyle_init1 => k_is)
    (case xStyle_init1 => first | exact rfl | exact ⟨_, rfl⟩)
    (case wStyle_init2 => k_is)
    (case xStyle_init2 => first | exact rfl | exact ⟨_, rfl⟩)
    (case wStyle_init3 => k_is)
    (case xStyle_init3 => first | exact rfl | exact ⟨_, rfl⟩)
    (case wStyle_init4 => k_is)
    (case xStyle_init4 => first | exact rfl | exact ⟨_, rfl⟩)
    (case wStyle_init5 => k_is)
    (case xStyle_init5 => first | exact rfl | exact ⟨_, rfl⟩)
    (case wStyle_init6 => k_is)
    (case xStyle_init6 => first | exact rfl | exact ⟨_, rfl⟩)
    (case wStyle_init7 => k_is)
    (case xStyle_init7 => first | exact rfl | exact ⟨_, rfl⟩)
    (case wStyle_init8 => k_is)
    (case xStyle_init8 => first | exact rfl | exact ⟨_, rfl⟩)
    (case wStyle_init9 => k_is)
    (case xStyle_init9 => first | exact rfl | exact ⟨_, rfl⟩)
    (case a17 => k_is)
    (case l17 => k_is)
    (case c17 => k_is)
    (case k17 => k_is)
    (case a18 => k_is)
    (case l18 => k_is)
    (case c18 => k_is)
    (case k18 => k_is)
    (case a19 => k_is)
    (case l19 => k_is)
    (case c19 => k_is)
    (case k19 => k_is)
    (case a20 => k_is)
    (case l20 => k_is)
    (case c20 => k_is)
    (case k20 => k_is)
    (case a21 => k_is)
    (case l21 => k_is)
    (case c21 => k_is)
    (case k21 => k_is)
    (case a22 => k_is)
    (case l22 => k_is)
    (case c22 => k_is)
    (case k22 => k_is)
    (case mBox_held_boxes0 => dsimp only [My.cl_mk]; k_is)
    (case mBox_held_boxes1 => (try dsimp only [My.cl_mk]); k_is)
    (case mBox_held_boxes2 => (try dsimp only [My.cl_mk]); k_is)
    (case mBox_held_boxes3 => (try dsimp only [My.cl_mk]); k_is)
    (case mBox_held_boxes4 => (try dsimp only [My.cl_mk]); k_is)
    (case iWords_init0 => dsimp only [My.cl_mk]; k_is)
    (case iWords_init1 => (try dsimp only [My.cl_mk]); k_is)
    (case iWords_init2 => (try dsimp only [My.cl_mk]); k_is)
    (case iWords_init3 => (try dsimp only [My.cl_mk]); k_is)
    (case iWords_init4 => (try dsimp only [My.cl_mk]); k_is)
    (case iWords_init5 => (try dsimp only [My.cl_mk]); k_is)
    (case iWords_init6 => (try dsimp only [My.cl_mk]); k_is)
    (case wWords_init0 => k_is)
    (case xWords_init0 => first | exact rfl | exact ⟨_, rfl⟩)
    (case iPicture_init0 => dsimp only [My.cl_mk]; k_is)
    (case iPicture_init1 => (try dsimp only [My.cl_mk]); k_is)
    (case iPicture_init2 => (try dsimp only [My.cl_mk]); k_is)
    (case iPicture_init3 => (try dsimp only [My.cl_mk]); k_is)
    (case iPicture_init4 => (try dsimp only [My.cl_mk]); k_is)
    (case iPicture_init5 => (try dsimp only [My.cl_mk]); k_is)
    (case iPicture_init6 => (try dsimp only [My.cl_mk]); k_is)
    (case wPicture_init0 => k_is)
    (case xPicture_init0 => first | exact rfl | exact ⟨_, rfl⟩)
    (case iRow_init0 => dsimp only [My.cl_mk]; k_is)
    (case iRow_init1 => (try dsimp only [My.cl_mk]); k_is)
    (case iRow_init2 => (try dsimp only [My.cl_mk]); k_is)
    (case iRow_init3 => (try dsimp only [My.cl_mk]); k_is)
    (case iRow_init4 => (try dsimp only [My.cl_mk]); k_is)
    (case iRow_init5 => (try dsimp only [My.cl_mk]); k_is)
    (case iRow_init6 => (try dsimp only [My.cl_mk]); k_is)
    (case wRow_init0 => k_is)
    (case xRow_init0 => first | exact rfl | exact ⟨_, rfl⟩)
    (case wRow_init1 => k_is)
    (case xRow_init1 => first | exact rfl | exact ⟨_, rfl⟩)
    (case wRow_init2 => k_is)
    (case xRow_init2 => first | exact rfl | exact ⟨_, rfl⟩)
    (case wRow_init3 => k_is)
    (case xRow_init3 => first | exact rfl | exact ⟨_, rfl⟩)
    (case wRow_init4 => k_is)
    (case xRow_init4 => first | exact rfl | exact ⟨_, rfl⟩)
    (case wRow_init5 => k_is)
    (case xRow_init5 => first | exact rfl | exact ⟨_, rfl⟩)
    (case mRow_held_boxes0 => dsimp only [My.cl_mk]; k_is)
    (case mRow_held_boxes1 => (try dsimp only [My.cl_mk]); k_is)
    (case mRow_held_boxes2 => (try dsimp only [My.cl_mk]); k_is)
    (case mRow_held_boxes3 => (try dsimp only [My.cl_mk]); k_is)
    (case mRow_held_boxes4 => (try dsimp only [My.cl_mk]); k_is)
    (case iPile_init0 => dsimp only [My.cl_mk]; k_is)
    (case iPile_init1 => (try dsimp only [My.cl_mk]); k_is)
    (case iPile_init2 => (try dsimp only [My.cl_mk]); k_is)
    (case iPile_init3 => (try dsimp only [My.cl_mk]); k_is)
    (case iPile_init4 => (try dsimp only [My.cl_mk]); k_is)
    (case iPile_init5 => (try dsimp only [My.cl_mk]); k_is)
    (case iPile_init6 => (try dsimp only [My.cl_mk]); k_is)
    (case wPile_init0 => k_is)
    (case xPile_init0 => first | exact rfl | exact ⟨_, rfl⟩)
    (case wPile_init1 => k_is)
    (case xPile_init1 => first | exact rfl | exact ⟨_, rfl⟩)
    (case wPile_init2 => k_is)
    (case xPile_init2 => first | exact rfl | exact ⟨_, rfl⟩)
    (case wPile_init3 => k_is)
    (case xPile_init3 => first | exact rfl | exact ⟨_, rfl⟩)
    (case mPile_held_boxes0 => dsimp only [My.cl_mk]; k_is)
    (case mPile_held_boxes1 => (try dsimp only [My.cl_mk]); k_is)
    (case mPile_held_boxes2 => (try dsimp only [My.cl_mk]); k_is)
    (case mPile_held_boxes3 => (try dsimp only [My.cl_mk]); k_is)
    (case mPile_held_boxes4 => (try dsimp only [My.cl_mk]); k_is)
    (case iGrid_init0 => dsimp only [My.cl_mk]; k_is)
    (case iGrid_init1 => (try dsimp only [My.cl_mk]); k_is)
    (case iGrid_init2 => (try dsimp only [My.cl_mk]); k_is)
    (case iGrid_init3 => (try dsimp only [My.cl_mk]); k_is)
    (case iGrid_init4 => (try dsimp only [My.cl_mk]); k_is)
    (case iGrid_init5 => (try dsimp only [My.cl_mk]); k_is)
    (case iGrid_init6 => (try dsimp only [My.cl_mk]); k_is)
    (case wGrid_init0 => k_is)
    (case xGrid_init0 => first | exact rfl | exact ⟨_, rfl⟩)
    (case wGrid_init1 => k_is)
    (case xGrid_init1 => first | exact rfl | exact ⟨_, rfl⟩)
    (case wGrid_init2 => k_is)
    (case xGrid_init2 => first | exact rfl | exact ⟨_, rfl⟩)
    (case wGrid_init3 => k_is)
    (case xGrid_init3 => first | exact rfl | exact ⟨_, rfl⟩)
    (case mGrid_held_boxes0 => dsimp only [My.cl_mk]; k_is)
    (case mGrid_held_boxes1 => (try dsimp only [My.cl_mk]); k_is)
    (case mGrid_held_boxes2 => (try dsimp only [My.cl_mk]); k_is)
    (case mGrid_held_boxes3 => (try dsimp only [My.cl_mk]); k_is)
    (case mGrid_held_boxes4 => (try dsimp only [My.cl_mk]); k_is)
    (case a23 => k_is)
    (case l23 => k_is)
    (case c23 => k_is)
    (case k23 => k_is)
    (case a24 => k_is)
    (case l24 => k_is)
    (case c24 => k_is)
    (case k24 => k_is)
    (case iNest_init0 => dsimp only [My.cl_mk]; k_is)
    (case iNest_init1 => (try dsimp only [My.cl_mk]); k_is)
    (case iNest_init2 => (try dsimp only [My.cl_mk]); k_is)
    (case iNest_init3 => (try dsimp only [My.cl_mk]); k_is)
    (case iNest_init4 => (try dsimp only [My.cl_mk]); k_is)
    (case iNest_init5 => (try dsimp only [My.cl_mk]); k_is)
    (case iNest_init6 => (try dsimp only [My.cl_mk]); k_is)
    (case mNest_named0 => dsimp only [My.cl_mk]; k_is)
    (case mNest_named1 => (try dsimp only [My.cl_mk]); k_is)
    (case mNest_named2 => (try dsimp only [My.cl_mk]); k_is)
    (case mNest_named3 => (try dsimp only [My.cl_mk]); k_is)
    (case mNest_named4 => (try dsimp only [My.cl_mk]); k_is)
    (case a25 => k_is)
    (case l25 => k_is)
    (case c25 => k_is)
    (case k25 => k_is)
    (case a26 => k_is)
    (case l26 => k_is)
    (case c26 => k_is)
    (case k26 => k_is)
    (case a27 => k_is)
    (case l27 => k_is)
    (case c27 => k_is)
    (case k27 => k_is)
    (case a28 => k_is)
    (case l28 => k_is)
    (case c28 => k_is)
    (case k28 => k_is)
    (case a29 => k_is)
    (case l29 => k_is)
    (case c29 => k_is)
    (case k29 => k_is)
    (case a30 => k_is)
    (case l30 => k_is)
    (case c30 => k_is)
    (case k30 => k_is)
    (case a31 => k_is)
    (case l31 => k_is)
    (case c31 => k_is)
    (case k31 => k_is)
    (case a32 => k_is)
    (case l32 => k_is)
    (case c32 => k_is)
    (case k32 => k_is)
    (case a33 => k_is)
    (case l33 => k_is)
    (case c33 => k_is)
    (case k33 => k_is)
    (case a34 => k_is)
    (case l34 => k_is)
    (case c34 => k_is)
    (case k34 => k_is)
    (case a35 => k_is)
    (case l35 => k_is)
    (case c35 => k_is)
    (case k35 => k_is)
    (case a36 => k_is)
    (case l36 => k_is)
    (case c36 => k_is)
    (case k36 => k_is)
    (case a37 => k_is)
    (case l37 => k_is)
    (case c37 => k_is)
    (case k37 => k_is)
    (case a38 => k_is)
    (case l38 => k_is)
    (case c38 => k_is)
    (case k38 => k_is)
    (case a39 => k_is)
    (case l39 => k_is)
    (case c39 => k_is)
    (case k39 => k_is)
    (case a40 => k_is)
    (case l40 => k_is)
    (case c40 => k_is)
    (case k40 => k_is)
    (case a41 => k_is)
    (case l41 => k_is)
    (case c41 => k_is)
    (case k41 => k_is)
    (case a42 => k_is)
    (case l42 => k_is)
    (case c42 => k_is)
    (case k42 => k_is)
    (case a43 => k_is)
    (case l43 => k_is)
    (case c43 => k_is)
    (case k43 => k_is)
    (case a44 => k_is)
    (case l44 => k_is)
    (case c44 => k_is)
    (case k44 => k_is)
    (case a45 => k_is)
    (case l45 => k_is)
    (case c45 => k_is)
    (case k45 => k_is)
    (case a46 => k_is)
    (case l46 => k_is)
    (case c46 => k_is)
    (case k46 => k_is)
    (case a47 => k_is)
    (case l47 => k_is)
    (case c47 => k_is)
    (case k47 => k_is)
    (case a48 => k_is)
    (case l48 => k_is)
    (case c48 => k_is)
    (case k48 => k_is)
    (case a49 => k_is)
    (case l49 => k_is)
    (case c49 => k_is)
    (case k49 => k_is)
    (case a50 => k_is)
    (case l50 => k_is)
    (case c50 => k_is)
    (case k50 => k_is)
    (case a51 => k_is)
    (case l51 => k_is)
    (case c51 => k_is)
    (case k51 => k_is)
    (case a52 => k_is)
    (case l52 => k_is)
    (case c52 => k_is)
    (case k52 => k_is)
    (case z_ValueError => k_is)
    (case z_all => k_is)
    (case z_any => k_is)
    (case z_bool => k_is)
    (case z_enumerate => k_is)
    (case z_int => k_is)
    (case z_isinstance => k_is)
    (case z_len => k_is)
    (case z_list => k_is)
    (case z_max => k_is)
    (case z_min => k_is)
    (case z_range => k_is)
    (case z_str => k_is)
    (case z_tuple => k_is)
    (case v_SIDES => k_is)
    (case v_STANDS => k_is)
    (case v_PACKS => k_is)
    (case v_LETTERS => k_is)
    (case v_LONGEST => k_is)
    (case tNO_RIMS0 => k_is)
    (case tNO_RIMS1 => rfl)
    (case tNO_RIMS2 => rfl)
    (case tNO_RIMS3 => decide +kernel)
    (case tNO_RIMS4 => exact .cons ⟨_, rfl⟩ (.cons ⟨_, rfl⟩ (.cons ⟨_, rfl⟩ (.cons ⟨_, rfl⟩ (.nil)))))
    (case tSIDES0 => k_is)
    (case tSIDES1 => rfl)
    (case tSIDES2 => rfl)
    (case tSIDES3 => decide +kernel)
    (case tSIDES4 => exact .cons ⟨_, rfl⟩ (.cons ⟨_, rfl⟩ (.nil)))
    (case tSTANDS0 => k_is)
    (case tSTANDS1 => rfl)
    (case tSTANDS2 => rfl)
    (case tSTANDS3 => decide +kernel)
    (case tSTANDS4 => exact .cons ⟨_, rfl⟩ (.cons ⟨_, rfl⟩ (.cons ⟨_, rfl⟩ (.cons ⟨_, rfl⟩ (.cons ⟨_, rfl⟩ (.nil))))))
    (case tPACKS0 => k_is)
    (case tPACKS1 => rfl)
    (case tPACKS2 => rfl)
    (case tPACKS3 => decide +kernel)
    (case tPACKS4 => exact .cons ⟨_, rfl⟩ (.cons ⟨_, rfl⟩ (.cons ⟨_, rfl⟩ (.cons ⟨_, rfl⟩ (.nil)))))
    (case r_LETTERS => exact ⟨_, rfl⟩)
    (case r_LONGEST => exact ⟨_, rfl⟩)
    (case wg => (try dsimp only [My.ex_mk, My.ec_mk, My.cl_mk, My.mt_mk]); k_is)
    (case wt => (try dsimp only [My.ex_mk, My.ec_mk, My.cl_mk, My.mt_mk]); k_is)
    (case wc_Words => (try dsimp only [My.ex_mk, My.ec_mk, My.cl_mk, My.mt_mk]); k_is)
    (case wm_Words => (try dsimp only [My.ex_mk, My.ec_mk, My.cl_mk, My.mt_mk]); k_is)
    (case wc_Picture => (try dsimp only [My.ex_mk, My.ec_mk, My.cl_mk, My.mt_mk]); k_is)
    (case wm_Picture => (try dsimp only [My.ex_mk, My.ec_mk, My.cl_mk, My.mt_mk]); k_is)
    (case wc_Row => (try dsimp only [My.ex_mk, My.ec_mk, My.cl_mk, My.mt_mk]); k_is)
    (case wm_Row => (try dsimp only [My.ex_mk, My.ec_mk, My.cl_mk, My.mt_mk]); k_is)
    (case wc_Pile => (try dsimp only [My.ex_mk, My.ec_mk, My.cl_mk, My.mt_mk]); k_is)
    (case wm_Pile => (try dsimp only [My.ex_mk, My.ec_mk, My.cl_mk, My.mt_mk]); k_is)
    (case wc_Grid => (try dsimp only [My.ex_mk, My.ec_mk, My.cl_mk, My.mt_mk]); k_is)
    (case wm_Grid => (try dsimp only [My.ex_mk, My.ec_mk, My.cl_mk, My.mt_mk]); k_is)
    (case wc_Style => (try dsimp only [My.ex_mk, My.ec_mk, My.cl_mk, My.mt_mk]); k_is)
    (case wm_Style => (try dsimp only [My.ex_mk, My.ec_mk, My.cl_mk, My.mt_mk]); k_is)
    (case kb_Words0 => (try dsimp only [My.cl_mk]); k_is)
    (case kb_Words1 => (try dsimp only [My.cl_mk]); k_is)
    (case kb_Words2 => (try dsimp only [My.cl_mk]); k_is)
    (case kb_Words3 => (try dsimp only [My.cl_mk]); k_is)
    (case ki_Words_Words0 => (try dsimp only [My.cl_mk]); k_is)
    (case ki_Words_Words1 => (try dsimp only [My.cl_mk]); k_is)
    (case ki_Words_Words2 => (try dsimp only [My.cl_mk]); k_is)
    (case ki_Words_Words3 => (try dsimp only [My.cl_mk]); k_is)
    (case ki_Words_Picture0 => (try dsimp only [My.cl_mk]); k_is)
    (case ki_Words_Picture1 => (try dsimp only [My.cl_mk]); k_is)
    (case ki_Words_Picture2 => (try dsimp only [My.cl_mk]); k_is)
    (case ki_Words_Picture3 => (try dsimp only [My.cl_mk]); k_is)
    (case ki_Words_Row0 => (try dsimp only [My.cl_mk]); k_is)
    (case ki_Words_Row1 => (try dsimp only [My.cl_mk]); k_is)
    (case ki_Words_Row2 => (try dsimp only [My.cl_mk]); k_is)
    (case ki_Words_Row3 => (try dsimp only [My.cl_mk]); k_is)
    (case ki_Words_Pile0 => (try dsimp only [My.cl_mk]); k_is)
    (case ki_Words_Pile1 => (try dsimp only [My.cl_mk]); k_is)
    (case ki_Words_Pile2 => (try dsimp only [My.cl_mk]); k_is)
    (case ki_Words_Pile3 => (try dsimp only [My.cl_mk]); k_is)
    (case ki_Words_Grid0 => (try dsimp only [My.cl_mk]); k_is)
    (case ki_Words_Grid1 => (try dsimp only [My.cl_mk]); k_is)
    (case ki_Words_Grid2 => (try dsimp only [My.cl_mk]); k_is)
    (case ki_Words_Grid3 => (try dsimp only [My.cl_mk]); k_is)
    (case kb_Picture0 => (try dsimp only [My.cl_mk]); k_is)
    (case kb_Picture1 => (try dsimp only [My.cl_mk]); k_is)
    (case kb_Picture2 => (try dsimp only [My.cl_mk]); k_is)
    (case kb_Picture3 => (try dsimp only [My.cl_mk]); k_is)
    (case ki_Picture_Words0 => (try dsimp only [My.cl_mk]); k_is)
    (case ki_Picture_Words1 => (try dsimp only [My.cl_mk]); k_is)
    (case ki_Picture_Words2 => (try dsimp only [My.cl_mk]); k_is)
    (case ki_Picture_Words3 => (try dsimp only [My.cl_mk]); k_is)
    (case ki_Picture_Picture0 => (try dsimp only [My.cl_mk]); k_is)
    (case ki_Picture_Picture1 => (try dsimp only [My.cl_mk]); k_is)
    (case ki_Picture_Picture2 => (try dsimp only [My.cl_mk]); k_is)
    (case ki_Picture_Picture3 => (try dsimp only [My.cl_mk]); k_is)
    (case ki_Picture_Row0 => (try dsimp only [My.cl_mk]); k_is)
    (case ki_Picture_Row1 => (try dsimp only [My.cl_mk]); k_is)
    (case ki_Picture_Row2 => (try dsimp only [My.cl_mk]); k_is)
    (case ki_Picture_Row3 => (try dsimp only [My.cl_mk]); k_is)
    (case ki_Picture_Pile0 => (try dsimp only [My.cl_mk]); k_is)
    (case ki_Picture_Pile1 => (try dsimp only [My.cl_mk]); k_is)
    (case ki_Picture_Pile2 => (try dsimp only [My.cl_mk]); k_is)
    (case ki_Picture_Pile3 => (try dsimp only [My.cl_mk]); k_is)
    (case ki_Picture_Grid0 => (try dsimp only [My.cl_mk]); k_is)
    (case ki_Picture_Grid1 => (try dsimp only [My.cl_mk]); k_is)
    (case ki_Picture_Grid2 => (try dsimp only [My.cl_mk]); k_is)
    (case ki_Picture_Grid3 => (try dsimp only [My.cl_mk]); k_is)
    (case kb_Row0 => (try dsimp only [My.cl_mk]); k_is)
    (case kb_Row1 => (try dsimp only [My.cl_mk]); k_is)
    (case kb_Row2 => (try dsimp only [My.cl_mk]); k_is)
    (case kb_Row3 => (try dsimp only [My.cl_mk]); k_is)
    (case ki_Row_Words0 => (try dsimp only [My.cl_mk]); k_is)
    (case ki_Row_Words1 => (try dsimp only [My.cl_mk]); k_is)
    (case ki_Row_Words2 => (try dsimp only [My.cl_mk]); k_is)
    (case ki_Row_Words3 => (try dsimp only [My.cl_mk]); k_is)
    (case ki_Row_Picture0 => (try dsimp only [My.cl_mk]); k_is)
    (case ki_Row_Picture1 => (try dsimp only [My.cl_mk]); k_is)
    (case ki_Row_Picture2 => (try dsimp only [My.cl_mk]); k_is)
    (case ki_Row_Picture3 => (try dsimp only [My.cl_mk]); k_is)
    (case ki_Row_Row0 => (try dsimp only [My.cl_mk]); k_is)
    (case ki_Row_Row1 => (try dsimp only [My.cl_mk]); k_is)
    (case ki_Row_Row2 => (try dsimp only [My.cl_mk]); k_is)
    (case ki_Row_Row3 => (try dsimp only [My.cl_mk]); k_is)
    (case ki_Row_Pile0 => (try dsimp only [My.cl_mk]); k_is)
    (case ki_Row_Pile1 => (try dsimp only [My.cl_mk]); k_is)
    (case ki_Row_Pile2 => (try dsimp only [My.cl_mk]); k_is)
    (case ki_Row_Pile3 => (try dsimp only [My.cl_mk]); k_is)
    (case ki_Row_Grid0 => (try dsimp only [My.cl_mk]); k_is)
    (case ki_Row_Grid1 => (try dsimp only [My.cl_mk]); k_is)
    (case ki_Row_Grid2 => (try dsimp only [My.cl_mk]); k_is)
    (case ki_Row_Grid3 => (try dsimp only [My.cl_mk]); k_is)
    (case kb_Pile0 => (try dsimp only [My.cl_mk]); k_is)
    (case kb_Pile1 => (try dsimp only [My.cl_mk]); k_is)
    (case kb_Pile2 => (try dsimp only [My.cl_mk]); k_is)
    (case kb_Pile3 => (try dsimp only [My.cl_mk]); k_is)
    (case ki_Pile_Words0 => (try dsimp only [My.cl_mk]); k_is)
    (case ki_Pile_Words1 => (try dsimp only [My.cl_mk]); k_is)
    (case ki_Pile_Words2 => (try dsimp only [My.cl_mk]); k_is)
    (case ki_Pile_Words3 => (try dsimp only [My.cl_mk]); k_is)
    (case ki_Pile_Picture0 => (try dsimp only [My.cl_mk]); k_is)
    (case ki_Pile_Picture1 => (try dsimp only [My.cl_mk]); k_is)
    (case ki_Pile_Picture2 => (try dsimp only [My.cl_mk]); k_is)
    (case ki_Pile_Picture3 => (try dsimp only [My.cl_mk]); k_is)
    (case ki_Pile_Row0 => (try dsimp only [My.cl_mk]); k_is)
    (case ki_Pile_Row1 => (try dsimp only [My.cl_mk]); k_is)
    (case ki_Pile_Row2 => (try dsimp only [My.cl_mk]); k_is)
    (case ki_Pile_Row3 => (try dsimp only [My.cl_mk]); k_is)
    (case ki_Pile_Pile0 => (try dsimp only [My.cl_mk]); k_is)
    (case ki_Pile_Pile1 => (try dsimp only [My.cl_mk]); k_is)
    (case ki_Pile_Pile2 => (try dsimp only [My.cl_mk]); k_is)
    (case ki_Pile_Pile3 => (try dsimp only [My.cl_mk]); k_is)
    (case ki_Pile_Grid0 => (try dsimp only [My.cl_mk]); k_is)
    (case ki_Pile_Grid1 => (try dsimp only [My.cl_mk]); k_is)
    (case ki_Pile_Grid2 => (try dsimp only [My.cl_mk]); k_is)
    (case ki_Pile_Grid3 => (try dsimp only [My.cl_mk]); k_is)
    (case kb_Grid0 => (try dsimp only [My.cl_mk]); k_is)
    (case kb_Grid1 => (try dsimp only [My.cl_mk]); k_is)
    (case kb_Grid2 => (try dsimp only [My.cl_mk]); k_is)
    (case kb_Grid3 => (try dsimp only [My.cl_mk]); k_is)
    (case ki_Grid_Words0 => (try dsimp only [My.cl_mk]); k_is)
    (case ki_Grid_Words1 => (try dsimp only [My.cl_mk]); k_is)
    (case ki_Grid_Words2 => (try dsimp only [My.cl_mk]); k_is)
    (case ki_Grid_Words3 => (try dsimp only [My.cl_mk]); k_is)
    (case ki_Grid_Picture0 => (try dsimp only [My.cl_mk]); k_is)
    (case ki_Grid_Picture1 => (try dsimp only [My.cl_mk]); k_is)
    (case ki_Grid_Picture2 => (try dsimp only [My.cl_mk]); k_is)
    (case ki_Grid_Picture3 => (try dsimp only [My.cl_mk]); k_is)
    (case ki_Grid_Row0 => (try dsimp only [My.cl_mk]); k_is)
    (case ki_Grid_Row1 => (try dsimp only [My.cl_mk]); k_is)
    (case ki_Grid_Row2 => (try dsimp only [My.cl_mk]); k_is)
    (case ki_Grid_Row3 => (try dsimp only [My.cl_mk]); k_is)
    (case ki_Grid_Pile0 => (try dsimp only [My.cl_mk]); k_is)
    (case ki_Grid_Pile1 => (try dsimp only [My.cl_mk]); k_is)
    (case ki_Grid_Pile2 => (try dsimp only [My.cl_mk]); k_is)
    (case ki_Grid_Pile3 => (try dsimp only [My.cl_mk]); k_is)
    (case ki_Grid_Grid0 => (try dsimp only [My.cl_mk]); k_is)
    (case ki_Grid_Grid1 => (try dsimp only [My.cl_mk]); k_is)
    (case ki_Grid_Grid2 => (try dsimp only [My.cl_mk]); k_is)
    (case ki_Grid_Grid3 => (try dsimp only [My.cl_mk]); k_is)
    (case ki_Style0 => (try dsimp only [My.cl_mk]); k_is)
    (case ki_Style1 => (try dsimp only [My.cl_mk]); k_is)
    (case ki_Style2 => (try dsimp only [My.cl_mk]); k_is)
    (case ki_Style3 => (try dsimp only [My.cl_mk]); k_is)
    (case mh_Words => (try dsimp only [My.ex_mk, My.ec_mk, My.cl_mk, My.mt_mk]); k_is)
    (case mh_Picture => (try dsimp only [My.ex_mk, My.ec_mk, My.cl_mk, My.mt_mk]); k_is)
    (case eNestError0 => k_is)
    (case eNestError1 => k_exc)
    (case eNestError2 => k_is)
    (case eNestError3 => k_is)
    (case eNestError4 => k_is)
    (case eNestError5 => k_is)
    (case eNestError6 => k_is)
    (case eNestError7 => k_is)
    (case eNestError8 => k_is)
    (case eNestError9 => k_is)
    (case eNestError10 => k_is)
    (case eNestError11 => k_is)
    (case eNoName0 => k_is)
    (case eNoName1 => k_exc)
    (case eNoName2 => k_is)
    (case eNoName3 => k_is)
    (case eNoName4 => k_is)
    (case eNoName5 => k_is)
    (case eNoName6 => k_is)
    (case eNoName7 => k_is)
    (case eNoName8 => k_is)
    (case eNoName9 => k_is)
    (case eNoName10 => k_is)
    (case eNoName11 => k_is)
    (case r_NoName => (try dsimp only [My.ex_mk, My.ec_mk, My.cl_mk, My.mt_mk]); k_is)
    (case s_NoName => (try dsimp only [My.ex_mk, My.ec_mk, My.cl_mk, My.mt_mk]); k_is)
    (case v_NoName => (try dsimp only [My.ex_mk, My.ec_mk, My.cl_mk, My.mt_mk]); k_is)
    (case eNoTree0 => k_is)
    (case eNoTree1 => k_is)
    (case eNoTree2 => k_is)
    (case i_NoTree => (try dsimp only [My.ex_mk, My.ec_mk, My.cl_mk, My.mt_mk]); k_is)
    (case eNoWord0 => k_is)
    (case eNoWord1 => k_is)
    (case eNoWord2 => k_is)
    (case i_NoWord => (try dsimp only [My.ex_mk, My.ec_mk, My.cl_mk, My.mt_mk]); k_is)
    (case eNoBox0 => k_is)
    (case eNoBox1 => k_is)
    (case eNoBox2 => k_is)
    (case i_NoBox => (try dsimp only [My.ex_mk, My.ec_mk, My.cl_mk, My.mt_mk]); k_is)
    (case ks_Words => (try dsimp only [My.ex_mk, My.ec_mk, My.cl_mk, My.mt_mk]); k_is)
    (case ks_Picture => (try dsimp only [My.ex_mk, My.ec_mk, My.cl_mk, My.mt_mk]); k_is)
    (case ks_Row => (try dsimp only [My.ex_mk, My.ec_mk, My.cl_mk, My.mt_mk]); k_is)
    (case ks_Pile => (try dsimp only [My.ex_mk, My.ec_mk, My.cl_mk, My.mt_mk]); k_is)
    (case ks_Grid => (try dsimp only [My.ex_mk, My.ec_mk, My.cl_mk, My.mt_mk]); k_is)
#print axioms PySem.Challenge.cw_nestlaid_k22_names_and_holders_holds
