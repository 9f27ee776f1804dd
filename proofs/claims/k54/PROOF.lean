import PyProof.Rows.All
import Wide.All
import OpenK.AllK
import Wide.FinOn
import HandS.ForMost
import HandS.ForExc
import HandS.Wide
import HandS.IsInst
import HandS.Defaults
import HandS.MakeKwOnly
import HandS.Flow
import HandS.EndBits
import HandS.Style
import HandS.Conv
import HandS.Deep
import HandS.Codes
import PyProof.StrOps2
import HandS.ReplaceLit
import HandS.Iter
import HandS.SortKw
import KE.DataMinMax
import HandS.More
import HandS.DeepEq
import PyProof.NeKinds
import HandS.ExcIs
import HandS.ExcOwn
import HandS.WordsExc
import HandS.Zip
import HandS.TupAny
import HandS.NoneIn
import HandS.OwnEq
import HandS.CallLocal
import HandS.Text
import PyProof.CollectIter
import PyProof.WalksMore
import HandS.DictComp
import PyProof.FactsAll.subtypes_4
import PyProof.FactsAll.dict_2
import HandS.Replace
import PyProof.ToksMono
import KE.KDictDisplayH
import HandS.Comp
import HandS.TupLen
import KE.HD2
import PySem.Challenge.RW_nestlaid_k54_what_is_asked
set_option Elab.async false
set_option linter.all false
set_option maxRecDepth 100000
set_option maxHeartbeats 0
namespace MyHead
open PySem PySem.W PySem.Calls PyProof.Rows
abbrev R : OpenRow := OpenLaw.row PySem.Challenge.rw_nestlaid_k54_what_is_asked
abbrev qv : Program := view R.prog [104]
def names : List PySem.Str := ([PySem.Str.ofString "_wall", PySem.Str.ofString "__name__", PySem.Str.ofString "NestError", PySem.Str.ofString "NoNumber", PySem.Str.ofString "NoText", PySem.Str.ofString "NoName", PySem.Str.ofString "NoStyle", PySem.Str.ofString "NoBox", PySem.Str.ofString "NoTruth", PySem.Str.ofString "NoPack", PySem.Str.ofString "NoStand", PySem.Str.ofString "NoTrack", PySem.Str.ofString "NoSpot", PySem.Str.ofString "NoTree", PySem.Str.ofString "NoFrame", PySem.Str.ofString "NoWord", PySem.Str.ofString "is_whole", PySem.Str.ofString "LETTERS", PySem.Str.ofString "LONGEST", PySem.Str.ofString "is_count", PySem.Str.ofString "is_name", PySem.Str.ofString "is_share", PySem.Str.ofString "is_track", PySem.Str.ofString "are_tracks", PySem.Str.ofString "is_stretch", PySem.Str.ofString "is_spot", PySem.Str.ofString "apart", PySem.Str.ofString "may_stand", PySem.Str.ofString "are_spots", PySem.Str.ofString "NO_RIMS"] : List PySem.Str) ++ ([PySem.Str.ofString "SIDES", PySem.Str.ofString "STANDS", PySem.Str.ofString "is_part", PySem.Str.ofString "is_tie", PySem.Str.ofString "is_size", PySem.Str.ofString "is_bound", PySem.Str.ofString "is_rims", PySem.Str.ofString "Style", PySem.Str.ofString "told_fields", PySem.Str.ofString "shown_fields", PySem.Str.ofString "PACKS", PySem.Str.ofString "checked_name", PySem.Str.ofString "checked_style", PySem.Str.ofString "checked_boxes", PySem.Str.ofString "checked_gap", PySem.Str.ofString "checked_pack", PySem.Str.ofString "checked_stands", PySem.Str.ofString "Box", PySem.Str.ofString "Words", PySem.Str.ofString "Picture", PySem.Str.ofString "Row", PySem.Str.ofString "Pile", PySem.Str.ofString "Grid", PySem.Str.ofString "stand_of", PySem.Str.ofString "tied", PySem.Str.ofString "all_of", PySem.Str.ofString "holder_box", PySem.Str.ofString "wish_needs", PySem.Str.ofString "least_needs", PySem.Str.ofString "wide_needs"] : List PySem.Str) ++ ([PySem.Str.ofString "left_needs", PySem.Str.ofString "based", PySem.Str.ofString "line_needs", PySem.Str.ofString "flow_needs", PySem.Str.ofString "rise_needs", PySem.Str.ofString "stretches", PySem.Str.ofString "tall_needs", PySem.Str.ofString "base_needs", PySem.Str.ofString "top_needs", PySem.Str.ofString "WIDE", PySem.Str.ofString "add_boxes", PySem.Str.ofString "told_sizes", PySem.Str.ofString "Nest", PySem.Str.ofString "framed", PySem.Str.ofString "WORDS", PySem.Str.ofString "PLACED", PySem.Str.ofString "NEEDS", PySem.Str.ofString "looked_word", PySem.Str.ofString "needs_in", PySem.Str.ofString "needs", PySem.Str.ofString "asked", PySem.Str.ofString "_law_cell_at", PySem.Str.ofString "_law_mixed", PySem.Str.ofString "_law_next", PySem.Str.ofString "_law_names", PySem.Str.ofString "_law_source", PySem.Str.ofString "_law_told", PySem.Str.ofString "_law_looks", PySem.Str.ofString "_law_style", PySem.Str.ofString "_law_box"] : List PySem.Str) ++ ([PySem.Str.ofString "_law_tree", PySem.Str.ofString "_law_order"] : List PySem.Str)
def obK (K : Params → Frag) (as : List Addr) (e : ∀ P, as = (K P).map (·.1)) (s : SharedT) : (kHook K as e).α := as.map (HeadRun.getT s)
theorem obK_ok {K : Params → Frag} {as : List Addr} {e : ∀ P, as = (K P).map (·.1)} (s : SharedT) : obK K as e s = (kHook K as e).obs s.abs := by
  show as.map (HeadRun.getT s) = as.map s.abs.heap.get?
  exact congrArg (fun f => as.map f) (funext (HeadRun.getT_eq s))
section
set_option hygiene false in
local macro_rules
  | `(tactic| o_head $H) => `(tactic| (have _k := $H; exact h _))
theorem mkK (h : ∀ r : OpenRow, r.Holds) : PySem.Challenge.rw_nestlaid_k54_what_is_asked.Holds := by
  w_on
  o_law
  k_head
end
/-- some answers of a world, to read the fragment's addresses by -/
def someP : Params := { strHash := fun _ => 0, shareClass := fun _ => 0, mergeTok := fun t => t, idOf := fun _ => 0, idOfShared := fun _ _ => 0, followText := fun _ => false, idOfImm := fun _ => 0 }
noncomputable def asK : List Addr := (mkK.heap_39 someP).map (·.1)
theorem asK_ok (P : Params) : asK = (mkK.heap_39 P).map (·.1) := by kernel_rfl
noncomputable abbrev hk : Hook := kHook mkK.heap_39 asK asK_ok
theorem run0 (w : World) : HeadRun.RunEq R qv hk (obK mkK.heap_39 asK asK_ok) 12000 names (w.withFollow "special-get-raises" false) := by
  intro os
  kernel_rfl
theorem run1 (w : World) : HeadRun.RunEq R qv hk (obK mkK.heap_39 asK asK_ok) 12000 names (w.withFollow "special-get-raises" true) := by
  intro os
  kernel_rfl
theorem enter (call : WalkO qv names (XL qv []) hk.says R.toRowW (HeadRun.topDef R.prog 104) [] (fun f vs => PySem.call f vs)) : PySem.Challenge.rw_nestlaid_k54_what_is_asked.Holds := by
  w_on; o_law
  refine HeadRun.head_any (r := R) (q := qv) (H := hk) (M := 12000) (loose := names) (d := HeadRun.topDef R.prog 104) (kwd := []) obK_ok (by kernel_rfl) (fun s => by kernel_rfl) (fun w => byRow2 "special-get-raises" (P := fun w => HeadRun.RunEq R qv hk (obK mkK.heap_39 asK asK_ok) 12000 names w) run0 run1 w) (by kernel_rfl) (by kernel_rfl) (by kernel_rfl) (by rfl) (by first | assumption | decide +kernel) (by decide +kernel) ⟨rfl, rfl, rfl, rfl, rfl, by decide +kernel⟩ ?hw call
  case hw => w_witness2
end MyHead
set_option Elab.async false
set_option linter.all false
set_option maxRecDepth 100000
set_option maxHeartbeats 4000000
namespace My
open PySem PySem.Spec PyProof.Rows L2
/-! ### a def of the top, with its facts -/
structure Df (K : PySem.W.Frag) (mg : Str → Option Value) (x : Str) (st : Stmt) (ps : List Str) where
  f : Addr
  fd : FuncData
  F : Fun K x x st f fd
  b : Binds K fd ps []
  g : mg x = some (.ref f)
def df_mk {K : PySem.W.Frag} {mg : Str → Option Value} {x : Str} {st : Stmt} {ps : List Str} {h : Heap} (X : K.In h) (G : h.Ns mainGlobals mg) {f : Addr} {oc : Value} {od an : Option Addr} {osl : Array (Option Value)} {kV doc pm cdv ct : Value}
    (a : PySem.W.nsIn K mainGlobals x = some (some (.ref f))) (l : K.lookup f = some ⟨oc, od, .func (PySem.W.fnOf x x (defArgs st) (defBody st) (defScope st) .none kV doc pm an cdv ct), osl⟩)
    (c : PySem.W.codeIn K cdv x = true) (k : PySem.W.keepIn K (.ref f) = true)
    (hb : ∀ (kV doc pm : Value) (an : Option Addr) (cdv ct : Value) (us : List Value), us.length = ps.length → bindArgs (PySem.W.fnOf x x (defArgs st) (defBody st) (defScope st) .none kV doc pm an cdv ct) ⟨us, []⟩ = pure (ps.zip us)) : Df K mg x st ps :=
  ⟨f, _, fun_mk l c k, (fun_mk l c k).binds hb, PySem.W.mg_of X G a⟩
/-! ### calls by keywords alone -/
theorem vals_getD : ∀ {zs : List V} {ws : List Value}, Vals zs ws → ∀ i : Nat, RelV (zs.getD i .non) (ws.getD i .none)
  | _, _, .nil, i => rfl
  | _, _, .cons r t, 0 => r
  | _, _, .cons r t, i + 1 => by simpa using vals_getD t i
section
variable {X : Cx} {CX : CXT} {k n : Nat} {f C : Addr} {fd : FuncData} {ps ks : List Str} {sp : Sp} {E : XK} {x : Str} {p pos : Pos} {kws : List Keyword} {t tk : TA} {g : List Value → List Value → List Value} {gV : List V → List V → List V}
/-- f(k = v, ..) -/
theorem pe_callN0 (F : FnOk X.prog X.w X.K X.mg X.base CX k f fd ps sp) (hr : Room k X.A) (hg : Gl X x) (hm : X.mg x = some (.ref f)) (hk : PySem.W.keepIn X.K (.ref f) = true) (hb : KBn X.K fd ps 0 ks g gV) (hx : Passes CX X E) (hkw : PK X kws tk)
    (hall : (backToKw pos (keywordEach kws X.env)).all (·.1.isSome) = true := by rfl) (hks : (backToKw pos (keywordEach kws X.env)).filterMap (·.1) = ks := by rfl) (hdb : (x == ("__debug__" : Str)) = false := by decide)
    (hpl : ((backTo pos (starEach [] X.env)).any (·.1) || (backToKw pos (keywordEach kws X.env)).any (·.1.isNone)) = false := by rfl) :
    PE X (.Call (.Name x p) [] kws pos) (tCallN 0 ks.length sp gV E tNil tk) := by
  refine ⟨fun pins s σ H Q I h => ?_⟩
  refine wpAny_Call_Name_kw (ld_glob I hg hm ?_ hdb)
  refine PySem.W.callWith_KW0 (h₀ := X.base) I.ok.mod.kin hk hall ?_ hpl
  refine thn (hkw.run pos pins s σ H _ I h) fun ws s2 ⟨zs, H2, I2, rz, l1, l2, q2⟩ => ⟨I2.kIn, ?_⟩
  rw [hks]
  exact run_fnN (us := []) (vs := []) F hr hb hx I2 .nil rz rfl l2 q2
end
/-! ### heaps -/
/-- all that was tracked but at a is as it was -/
def But (a : Addr) (H H' : Hp) : Prop := ∀ b o, b ≠ a → H b = some o → H' b = some o
theorem But.app {a b : Addr} {H H' : Hp} {o : HO} (s : But a H H') (n : b ≠ a) (h : H b = some o) : H' b = some o := s _ _ n h
theorem But.refl {a : Addr} {H : Hp} : But a H H := fun _ _ _ h => h
theorem But.trans {a : Addr} {H H1 H2 : Hp} (s : But a H H1) (t : But a H1 H2) : But a H H2 := fun b o n h => t b o n (s b o n h)
theorem But.upd {a : Addr} {H H1 : Hp} {o : HO} (s : But a H H1) : But a H (upd H1 a o) := fun b u n h => by
  rw [upd_ne n]
  exact s b u n h
theorem But.new {a p : Addr} {H H1 : Hp} {o : HO} (s : But a H H1) (h : H1 p = none) : But a H (L2.upd H1 p o) := fun b u n e => by
  have e1 := s b u n e
  rw [upd_ne (ne_of_none e1 h)]
  exact e1
theorem Same.but {a : Addr} {H H1 : Hp} (s : Same H H1) : But a H H1 := fun b u n h => s b u h
theorem Same.app {b : Addr} {H H' : Hp} {o : HO} (s : Same H H') (h : H b = some o) : H' b = some o := s _ _ h
theorem Same.new {H H1 : Hp} {p : Addr} {o : HO} (s : Same H H1) (h : H1 p = none) : Same H (upd H1 p o) := fun b u e => by
  have e1 := s b u e
  rw [upd_ne (ne_of_none e1 h)]
  exact e1
theorem Same.mut {H H1 : Hp} {p : Addr} {o : HO} (s : Same H H1) (h : H p = none) : Same H (upd H1 p o) := fun b u e => by
  rw [upd_ne (ne_of_none e h)]
  exact s b u e
theorem But.seq {K : PySem.W.Frag} {H H' : Hp} {a b : Addr} {xs : List V} (e : But a H H') (n : b ≠ a) (h : SqL K H b xs) : SqL K H' b xs := by
  rcases h with (h | ⟨o, h⟩) | h
  · exact .inl (.inl (e _ _ n h))
  · exact .inl (.inr ⟨o, e _ _ n h⟩)
  · exact .inr h
theorem upd_keep {H : Hp} {a p : Addr} {o u : HO} (n : H p = none) (h : H a = some o) : upd H p u a = some o := (upd_ne (ne_of_none h n)).trans h
theorem Same.upd0 {H : Hp} {p : Addr} {o : HO} (n : H p = none) : Same H (upd H p o) := fun b u e => upd_keep n e
theorem sqL {K : PySem.W.Frag} {H : Hp} {a : Addr} {xs : List V} (h : H a = some (.lst xs)) : SqL K H a xs := .inl (.inl h)
theorem sqT {K : PySem.W.Frag} {H : Hp} {a : Addr} {xs : List V} (h : H a = some (.tup xs)) : SqT K H a xs := .inl (.inl h)
/-! ### new and changed objects, the heap behind them by a name -/
def New (H : Hp) (o : HO) (Q : VK) : Prop := ∀ p H', H p = none → Same H H' → H' p = some o → Q (.ref p) H'
theorem New.go {H : Hp} {o : HO} {Q : VK} (h : New H o Q) : ∀ p, H p = none → Q (.ref p) (upd H p o) := fun p n => h p _ n (Same.upd0 n) upd_same
/-- what stands at l becomes o -/
def Set1 (H : Hp) (l : Addr) (o : HO) (q : Hp → Prop) : Prop := ∀ H', But l H H' → H' l = some o → q H'
theorem Set1.go {H : Hp} {l : Addr} {o : HO} {q : Hp → Prop} (h : Set1 H l o q) : q (upd H l o) := h _ But.refl.upd upd_same
theorem pe_imp {X : Cx} {e : Expr} {t t' : TE} (h : PE X e t) (i : ∀ σ H Q, t' σ H Q → t σ H Q) : PE X e t' := ⟨fun pins s σ H Q I h' => h.run pins s σ H Q I (i _ _ _ h')⟩
theorem opR_imp {X : Cx} {f : Value → Value → Sem Value} {r r' : R2} (h : OpR X f r) (i : ∀ x y H Q, r' x y H Q → r x y H Q) : OpR X f r' := fun pins s σ H x y v u Q I rx ry q => h pins s σ H x y v u Q I rx ry (i _ _ _ _ q)
theorem callR_imp {X : Cx} {f : Value} {r r' : List V → Hp → VK → Prop} (h : CallR X f r) (i : ∀ xs H Q, r' xs H Q → r xs H Q) : CallR X f r' := fun pins s σ H xs us Q I rx q => h pins s σ H xs us Q I rx (i _ _ _ q)
theorem slR_imp {X : Cx} {r r' : V → Option Int → Option Int → Hp → VK → Prop} (h : SlR X r) (i : ∀ x lo hi H Q, r' x lo hi H Q → r x lo hi H Q) : SlR X r' := fun pins s σ H x v vl vu lo hi sl Q I rx a b c q => h pins s σ H x v vl vu lo hi sl Q I rx a b c (i _ _ _ _ _ q)
theorem mtM_imp {X : Cx} {id : String} {r r' : V → List V → Hp → VK → Prop} (h : MtM X id r) (i : ∀ x xs H Q, r' x xs H Q → r x xs H Q) : MtM X id r' := fun pins s σ H x xs v us Q I rx rv q => h pins s σ H x xs v us Q I rx rv (i _ _ _ _ q)
theorem pSet_imp {X : Cx} {r r' : TSet} (h : PSet X r) (i : ∀ x y z H Q, r' x y z H Q → r x y z H Q) : PSet X r' := fun pins s σ H o i' v ov iv u Q I a b c q => h pins s σ H o i' v ov iv u Q I a b c (i _ _ _ _ _ q)
section
variable {X : Cx} {es : List Expr} {t : TA} {pos : Pos}
/-- a tuple, a list -/
def tTupA (t : TA) : TE := fun σ H Q => t σ H fun xs H1 => xs.length ≤ sizeLine ∧ New H1 (.tup xs) Q
def tLstA (t : TA) : TE := fun σ H Q => t σ H fun xs H1 => xs.length ≤ sizeLine ∧ New H1 (.lst xs) Q
theorem pe_tupA {x1} (h : PA X es t) : PE X (.Tuple es x1 pos) (tTupA t) := by
  refine ⟨fun pins s σ H Q I hq => ?_⟩
  refine wpAny_Tuple_spliced (thn (h.run pos pins s σ H _ I hq) fun us s1 ⟨xs, H1, I1, r, z, q⟩ => ⟨by rw [← r.length]; exact z, ?_⟩)
  have hf : H1 s1.heap.objs.size = none := I1.hok.fresh (Nat.le_refl _)
  refine ⟨.ref s1.heap.objs.size, upd H1 s1.heap.objs.size (.tup xs), I1.laid (t' := s1.toks) (fun b u e => Heap.get?_push_of_some _ e) (Nat.le_refl _) ?_, rfl, q.go _ hf⟩
  exact ⟨z, us, r, ⟨_, Heap.get?_push_size _ rfl, rfl, _, rfl⟩⟩
theorem pe_lstA (h : PA X es t) : PE X (.List es pos) (tLstA t) := by
  refine ⟨fun pins s σ H Q I hq => ?_⟩
  refine wpAny_List_spliced (thn (h.run pos pins s σ H _ I hq) fun us s1 ⟨xs, H1, I1, r, z, q⟩ => ⟨by rw [← r.length]; exact z, ?_⟩)
  have hf : H1 s1.heap.objs.size = none := I1.hok.fresh (Nat.le_refl _)
  refine ⟨.ref s1.heap.objs.size, upd H1 s1.heap.objs.size (.lst xs), I1.laid (t' := s1.toks) (fun b u e => Heap.get?_push_of_some _ e) (Nat.le_refl _) ?_, rfl, q.go _ hf⟩
  exact ⟨z, us, 0, r, Heap.get?_push_size _ rfl⟩
def tDNewA : TE := fun _ H Q => New H (.dK []) Q
theorem pe_dnewA : PE X (.Dict [] [] pos) tDNewA := pe_imp pe_dnewK fun _ _ _ h => h.go
/-- list + list, list * n -/
def rCatA (K : PySem.W.Frag) : R2 := fun x y H Q => ∃ l b xs zs, x = .ref l ∧ y = .ref b ∧ H l = some (.lst xs) ∧ H b = some (.lst zs) ∧ xs.length + zs.length ≤ sizeLine ∧ New H (.lst (xs ++ zs)) Q
theorem op_catA : OpR X (binaryOp .Add) (rCatA X.K) := opR_imp op_cat fun _ _ _ _ ⟨l, b, xs, zs, e1, e2, h1, h2, z, q⟩ => ⟨l, b, xs, zs, e1, e2, h1, h2, z, q.go⟩
def rRepA : R2 := fun x y H Q => ∃ l k xs, x = .ref l ∧ y = .int k ∧ H l = some (.lst xs) ∧ -(2 ^ 63) ≤ k ∧ k < 2 ^ 63 ∧ xs.length * k.toNat ≤ sizeLine ∧ New H (.lst (List.replicate k.toNat xs).flatten) Q
theorem op_repA : OpR X (binaryOp .Mult) rRepA := opR_imp op_rep fun _ _ _ _ ⟨l, k, xs, e1, e2, h1, h2, h3, z, q⟩ => ⟨l, k, xs, e1, e2, h1, h2, h3, z, q.go⟩
def rSlA (K : PySem.W.Frag) : V → Option Int → Option Int → Hp → VK → Prop := fun x lo hi H Q => ∃ a xs, x = .ref a ∧ SqL K H a xs ∧ New H (.lst (cutV xs lo hi)) Q
theorem sl_listA : SlR X (rSlA X.K) := slR_imp sl_list fun _ _ _ _ _ ⟨a, xs, e, h1, q⟩ => ⟨a, xs, e, h1, q.go⟩
def rListA (K : PySem.W.Frag) : List V → Hp → VK → Prop := fun xs H Q => ∃ p ys, xs = [.ref p] ∧ (SqL K H p ys ∨ SqT K H p ys) ∧ New H (.lst ys) Q
theorem call_listA : CallR X (.type "list") (rListA X.K) := callR_imp call_list_of fun _ _ _ ⟨p, ys, e, h, q⟩ => ⟨p, ys, e, h, q.go⟩
/-- tuple(a list) -/
def rTupLA (K : PySem.W.Frag) : List V → Hp → VK → Prop := fun xs H Q => ∃ p ys, xs = [.ref p] ∧ SqL K H p ys ∧ New H (.tup ys) Q
theorem call_tupLA : CallR X (.type "tuple") (rTupLA X.K) := callR_imp call_tuple_of fun _ _ _ ⟨p, ys, e, h, q⟩ => ⟨p, ys, e, .inl ⟨h, q.go⟩⟩
def rSetA : V → V → V → Hp → (Hp → Prop) → Prop := fun o i v H Q => ∃ p xs k j, o = .ref p ∧ i = .int k ∧ H p = some (.lst xs) ∧ ixN xs.length k = some j ∧ Set1 H p (.lst (xs.set j v)) Q
theorem set_listA : PSet X rSetA := pSet_imp set_list fun _ _ _ _ _ ⟨p, xs, k, j, e1, e2, h1, h2, q⟩ => ⟨p, xs, k, j, e1, e2, h1, h2, q.go⟩
def rAppendA : V → List V → Hp → VK → Prop := fun x vs H Q => ∃ l xs y, x = .ref l ∧ vs = [y] ∧ H l = some (.lst xs) ∧ xs.length < sizeLine ∧ Set1 H l (.lst (xs ++ [y])) (Q .non)
def rClearA : V → List V → Hp → VK → Prop := fun x vs H Q => ∃ l xs, x = .ref l ∧ vs = [] ∧ H l = some (.lst xs) ∧ Set1 H l (.lst []) (Q .non)
theorem mt_clearA : MtM X "list.clear" rClearA := mtM_imp mt_clear fun _ _ _ _ ⟨l, xs, e1, e2, h1, q⟩ => ⟨l, xs, e1, e2, h1, q.go⟩
theorem mt_appendA : MtM X "list.append" rAppendA := mtM_imp mt_append fun _ _ _ _ ⟨l, xs, y, e1, e2, h1, h2, q⟩ => ⟨l, xs, y, e1, e2, h1, h2, q.go⟩
end
theorem cutV_mem {xs : List V} {lo hi : Option Int} {x : V} (h : x ∈ cutV xs lo hi) : x ∈ xs := List.mem_of_mem_drop (List.mem_of_mem_take h)
theorem int_of_map {ns : List Int} {i : Nat} {y : V} (h : (ns.map V.int)[i]? = some y) : ∃ z, ns[i]? = some z ∧ y = .int z := by
  rw [List.getElem?_map] at h
  cases e : ns[i]? with
  | none => rw [e] at h; cases h
  | some z => rw [e] at h; exact ⟨z, rfl, (Option.some.inj h).symm⟩
/-- the law's numbers: the first one (0 without), and some more -/
theorem cells_ints {c : Int} {ns : List Int} {lo hi : Option Int} {i : Nat} {y : V} (h : ([V.int c] ++ cutV (ns.map V.int) lo hi)[i]? = some y) : ∃ z, y = .int z := by
  have m := List.mem_of_getElem? h
  rcases List.mem_append.mp m with m | m
  · exact ⟨c, by simpa using m⟩
  · have m2 := cutV_mem m
    obtain ⟨z, _, e⟩ := List.mem_map.mp m2
    exact ⟨z, e.symm⟩
theorem cells_len {ns : List Int} {lo hi : Option Int} (h : ns.length ≤ 63) : ([V.int 0] : List V).length + (cutV (ns.map V.int) lo hi).length ≤ sizeLine := by
  have h1 := cutV_length (ns.map V.int) lo hi
  rw [List.length_map] at h1
  exact Nat.le_trans (by show 1 + _ ≤ 100; omega) (by decide)
/-! ### kinds -/
def isI : V → Bool
  | .int _ => true
  | _ => false
def isN : V → Bool
  | .int i => decide (0 ≤ i)
  | _ => false
def isB : V → Bool
  | .bl _ => true
  | _ => false
/-- a value of one of the plain kinds -/
inductive Ty7 (H : Hp) : V → String → Prop where
  | non : Ty7 H .non "NoneType"
  | bl (b : Bool) : Ty7 H (.bl b) "bool"
  | int (i : Int) : Ty7 H (.int i) "int"
  | str (x : Str) : Ty7 H (.str x) "str"
  | lst {a : Addr} {xs : List V} (h : H a = some (.lst xs)) : Ty7 H (.ref a) "list"
  | tup {a : Addr} {xs : List V} (h : H a = some (.tup xs)) : Ty7 H (.ref a) "tuple"
  | dK {a : Addr} {xs : List (Key × V)} (h : H a = some (.dK xs)) : Ty7 H (.ref a) "dict"
section
variable {K : PySem.W.Frag} {H H' : Hp} {x : V} {t : String}
theorem Ty7.tx (h : Ty7 H x t) : TyX K H x (.type t) := by
  cases h with
  | non => exact .base .non
  | bl b => exact .base (.bl b)
  | int i => exact .base (.int i)
  | str i => exact .base (.str i)
  | lst h => exact .base (.lst h)
  | tup h => exact .base (.tup h)
  | dK h => exact .base (.dK h)
theorem Ty7.ki (h : Ty7 H x t) : kitB t "int" = some (isI x || isB x) := by
  cases h <;> (simp only [isI, isB]; decide +kernel)
theorem Ty7.kb (h : Ty7 H x t) : kitB t "bool" = some (isB x) := by
  cases h <;> (simp only [isB]; decide +kernel)
theorem Ty7.kl (h : Ty7 H x t) : kitB t "list" = some (decide (t = "list")) := by
  cases h <;> decide +kernel
theorem Ty7.kt (h : Ty7 H x t) : kitB t "tuple" = some (decide (t = "tuple")) := by
  cases h <;> decide +kernel
theorem Ty7.ks (h : Ty7 H x t) : kitB t "str" = some (decide (t = "str")) := by
  cases h <;> decide +kernel
theorem Ty7.mono (h : Ty7 H x t) (s : Same H H') : Ty7 H' x t := by
  cases h with
  | non => exact .non
  | bl b => exact .bl b
  | int i => exact .int i
  | str i => exact .str i
  | lst h => exact .lst (s _ _ h)
  | tup h => exact .tup (s _ _ h)
  | dK h => exact .dK (s _ _ h)
end
theorem isI_of : ∀ {x : V}, isI x = true → ∃ i, x = .int i
  | .int i, _ => ⟨i, rfl⟩
theorem isI_bool {x : V} (h : (isI x || isB x) = true) : (!isB x) = isI x := by
  cases x <;> simp_all [isI, isB]
theorem isI_no {x : V} (h : ¬ (isI x || isB x) = true) : false = isI x := by
  cases x <;> simp_all [isI, isB]
def heldM (n l : Int) (m : Option Int) : Int := max (match m with | some m => min n m | none => n) l
def optI : Option Int → V
  | some i => .int i
  | none => .non
/-- the law's source of draws: three whole numbers -/
def src (s : Int × Int × Int) : HO := .lst [.int s.1, .int s.2.1, .int s.2.2]
/-! ### draws: only the source at a changes -/
def Src (H : Hp) (a : Addr) : Prop := ∃ s, H a = some (src s)
structure Dr (a : Addr) (H H' : Hp) : Prop where
  s : Src H' a
  b : But a H H'
theorem Dr.app {a b : Addr} {H H' : Hp} {o : HO} (d : Dr a H H') (n : b ≠ a) (h : H b = some o) : H' b = some o := d.b _ _ n h
theorem Dr.trans {a : Addr} {H H1 H2 : Hp} (d : Dr a H H1) (e : Dr a H1 H2) : Dr a H H2 := ⟨e.s, d.b.trans e.b⟩
theorem Dr.same {a : Addr} {H H1 H2 : Hp} (d : Dr a H H1) (e : Same H1 H2) : Dr a H H2 := ⟨let ⟨s, h⟩ := d.s; ⟨s, e _ _ h⟩, d.b.trans (Same.but e)⟩
theorem Dr.of {a : Addr} {H H1 : Hp} (h : Src H a) (e : Same H H1) : Dr a H H1 := ⟨let ⟨s, h⟩ := h; ⟨s, e _ _ h⟩, Same.but e⟩
theorem Dr.refl {a : Addr} {H : Hp} (h : Src H a) : Dr a H H := ⟨h, But.refl⟩
/-- a list that was not there may change -/
theorem Dr.mut {a l : Addr} {H H1 H2 : Hp} (d : Dr a H H1) (e : But l H1 H2) (n : H l = none) (na : a ≠ l) : Dr a H H2 :=
  ⟨let ⟨s, h⟩ := d.s; ⟨s, e _ _ na h⟩, fun b o nb h => e _ _ (ne_of_none h n) (d.b _ _ nb h)⟩
theorem Same.mut' {l : Addr} {H H1 H2 : Hp} (d : Same H H1) (e : But l H1 H2) (n : H l = none) : Same H H2 := fun b o h => e _ _ (ne_of_none h n) (d _ _ h)
theorem Src.same {a : Addr} {H H1 : Hp} (h : Src H a) (e : Same H H1) : Src H1 a := let ⟨s, h⟩ := h; ⟨s, e _ _ h⟩
theorem Src.but {a l : Addr} {H H1 : Hp} (h : Src H a) (e : But l H H1) (n : a ≠ l) : Src H1 a := let ⟨s, h⟩ := h; ⟨s, e _ _ n h⟩
theorem Src.ne {a p : Addr} {H : Hp} (h : Src H a) (n : H p = none) : p ≠ a := let ⟨_, h⟩ := h; (ne_of_none h n).symm
theorem Src.of {a : Addr} {H : Hp} {s : Int × Int × Int} (h : H a = some (src s)) : Src H a := ⟨s, h⟩
theorem Dr.free {a l : Addr} {H H' : Hp} (d : Dr a H H') (h : H' l = none) (n : l ≠ a) : H l = none := by
  cases q : H l with
  | none => rfl
  | some o => rw [d.b _ _ n q] at h; cases h
theorem Dr.seq {K : PySem.W.Frag} {H H' : Hp} {a b : Addr} {xs : List V} (e : Dr a H H') (n : b ≠ a) (h : SqL K H b xs) : SqL K H' b xs := e.b.seq n h
/-! ### comprehensions: P by the turn, the items so far, the heap; the item's end by a continuation of any kind -/
section
variable {K : PySem.W.Frag} {a b : Addr} {xs zs : List V} {g : TG} {tt : TT} {te : TE} {vs : List Nat} {σ : L2.St} {H1 : Hp} {D : Addr} {Qd : Hp → Prop}
/-- what an item's turn is to end in -/
abbrev LcT (g : TG) (tt : TT) (te : TE) (vs : List Nat) (σ : L2.St) (x : V) (H : Hp) (Kt : V → Hp → Prop) (Kf : Hp → Prop) : Prop :=
  g x (wipe σ vs) H fun σ2 H2 => wipe σ2 vs = wipe σ vs ∧ tt σ2 H2 fun b H3 => if b = true then te σ2 H3 Kt else Kf H3
/-- the ends of a turn -/
structure LcK (D : Addr) (P : List V → Hp → Prop) (acc : List V) (Kt : V → Hp → Prop) (Kf : Hp → Prop) : Prop where
  yes : ∀ y H4, H4 D = some (.lst acc) → acc.length < sizeLine → (∀ H5, But D H4 H5 → H5 D = some (.lst (acc ++ [y])) → P (acc ++ [y]) H5) → Kt y H4
  no : ∀ H3, H3 D = some (.lst acc) → P acc H3 → Kf H3
theorem lcL (P : Nat → List V → Hp → Prop) (h0 : ∀ H', Same H1 H' → H' D = some (.lst []) → P 0 [] H') (hD : H1 D = none) (hl : ∀ i acc H, P i acc H → SqL K H a xs)
    (hs : ∀ i x acc H Kt Kf, xs[i]? = some x → P i acc H → H D = some (.lst acc) → LcK D (P (i + 1)) acc Kt Kf → LcT g tt te vs σ x H Kt Kf)
    (hd : ∀ acc H, P xs.length acc H → H D = some (.lst acc) → Qd H) :
    ∃ W : Nat → Nat → Hp → Prop, (∃ m, W 0 m (upd H1 D (.lst []))) ∧ ∀ i m H, W i m H →
      ((Itl K a).stop i H ∧ Qd H) ∨ ((Itl K a).go i H ∧ ∃ Nx : Hp → Prop, (∀ H', Nx H' → ∃ m', m' < m ∧ W (i + 1) m' H') ∧ ∀ x H', (Itl K a).yld i H x H' → g x (wipe σ vs) H' fun σ2 H2 => wipe σ2 vs = wipe σ vs ∧ tt σ2 H2 fun b H3 =>
        if b = true then te σ2 H3 fun y H4 => ∃ acc, H4 D = some (.lst acc) ∧ acc.length < sizeLine ∧ Nx (upd H4 D (.lst (acc ++ [y]))) else Nx H3) :=
  lc_list (xs := xs) (fun i H => ∃ acc, H D = some (.lst acc) ∧ P i acc H) ⟨[], upd_same, h0 _ (Same.upd0 hD) upd_same⟩ (fun i H _ ⟨acc, _, p⟩ => hl i acc H p)
    (fun i x H hx ⟨acc, e, p⟩ => hs i x acc H _ _ hx p e ⟨fun y H4 e4 z k => ⟨acc, e4, z, acc ++ [y], upd_same, k _ But.refl.upd upd_same⟩, fun H3 e3 k => ⟨acc, e3, k⟩⟩) (fun H ⟨acc, e, p⟩ => hd acc H p e)
theorem lcT (P : Nat → List V → Hp → Prop) (h0 : ∀ H', Same H1 H' → H' D = some (.lst []) → P 0 [] H') (hD : H1 D = none) (hl : ∀ i acc H, P i acc H → SqT K H a xs)
    (hs : ∀ i x acc H Kt Kf, xs[i]? = some x → P i acc H → H D = some (.lst acc) → LcK D (P (i + 1)) acc Kt Kf → LcT g tt te vs σ x H Kt Kf)
    (hd : ∀ acc H, P xs.length acc H → H D = some (.lst acc) → Qd H) :
    ∃ W : Nat → Nat → Hp → Prop, (∃ m, W 0 m (upd H1 D (.lst []))) ∧ ∀ i m H, W i m H →
      ((Itt K a).stop i H ∧ Qd H) ∨ ((Itt K a).go i H ∧ ∃ Nx : Hp → Prop, (∀ H', Nx H' → ∃ m', m' < m ∧ W (i + 1) m' H') ∧ ∀ x H', (Itt K a).yld i H x H' → g x (wipe σ vs) H' fun σ2 H2 => wipe σ2 vs = wipe σ vs ∧ tt σ2 H2 fun b H3 =>
        if b = true then te σ2 H3 fun y H4 => ∃ acc, H4 D = some (.lst acc) ∧ acc.length < sizeLine ∧ Nx (upd H4 D (.lst (acc ++ [y]))) else Nx H3) :=
  lc_tup (xs := xs) (fun i H => ∃ acc, H D = some (.lst acc) ∧ P i acc H) ⟨[], upd_same, h0 _ (Same.upd0 hD) upd_same⟩ (fun i H _ ⟨acc, _, p⟩ => hl i acc H p)
    (fun i x H hx ⟨acc, e, p⟩ => hs i x acc H _ _ hx p e ⟨fun y H4 e4 z k => ⟨acc, e4, z, acc ++ [y], upd_same, k _ But.refl.upd upd_same⟩, fun H3 e3 k => ⟨acc, e3, k⟩⟩) (fun H ⟨acc, e, p⟩ => hd acc H p e)
theorem lcR {lo : Int} {n : Nat} (P : Nat → List V → Hp → Prop) (h0 : ∀ H', Same H1 H' → H' D = some (.lst []) → P 0 [] H') (hD : H1 D = none)
    (hs : ∀ i acc H Kt Kf, i < n → P i acc H → H D = some (.lst acc) → LcK D (P (i + 1)) acc Kt Kf → LcT g tt te vs σ (.int (lo + i)) H Kt Kf)
    (hd : ∀ acc H, P n acc H → H D = some (.lst acc) → Qd H) :
    ∃ W : Nat → Nat → Hp → Prop, (∃ m, W 0 m (upd H1 D (.lst []))) ∧ ∀ i m H, W i m H →
      ((Itr lo n).stop i H ∧ Qd H) ∨ ((Itr lo n).go i H ∧ ∃ Nx : Hp → Prop, (∀ H', Nx H' → ∃ m', m' < m ∧ W (i + 1) m' H') ∧ ∀ x H', (Itr lo n).yld i H x H' → g x (wipe σ vs) H' fun σ2 H2 => wipe σ2 vs = wipe σ vs ∧ tt σ2 H2 fun b H3 =>
        if b = true then te σ2 H3 fun y H4 => ∃ acc, H4 D = some (.lst acc) ∧ acc.length < sizeLine ∧ Nx (upd H4 D (.lst (acc ++ [y]))) else Nx H3) :=
  lc_range (fun i H => ∃ acc, H D = some (.lst acc) ∧ P i acc H) ⟨[], upd_same, h0 _ (Same.upd0 hD) upd_same⟩
    (fun i H hx ⟨acc, e, p⟩ => hs i acc H _ _ hx p e ⟨fun y H4 e4 z k => ⟨acc, e4, z, acc ++ [y], upd_same, k _ But.refl.upd upd_same⟩, fun H3 e3 k => ⟨acc, e3, k⟩⟩) (fun H ⟨acc, e, p⟩ => hd acc H p e)
/-- over enumerate: the pair is a new tuple -/
theorem lcE (P : Nat → List V → Hp → Prop) (h0 : ∀ H', Same H1 H' → H' D = some (.lst []) → P 0 [] H') (hD : H1 D = none) (hl : ∀ i acc H, P i acc H → SqL K H a xs)
    (hs : ∀ i x acc H T H' Kt Kf, xs[i]? = some x → P i acc H → H D = some (.lst acc) → H T = none → Same H H' → H' T = some (.tup [.int (i : Nat), x]) → LcK D (P (i + 1)) acc Kt Kf → LcT g tt te vs σ (.ref T) H' Kt Kf)
    (hd : ∀ acc H, P xs.length acc H → H D = some (.lst acc) → Qd H) :
    ∃ W : Nat → Nat → Hp → Prop, (∃ m, W 0 m (upd H1 D (.lst []))) ∧ ∀ i m H, W i m H →
      ((Ite K a).stop i H ∧ Qd H) ∨ ((Ite K a).go i H ∧ ∃ Nx : Hp → Prop, (∀ H', Nx H' → ∃ m', m' < m ∧ W (i + 1) m' H') ∧ ∀ x H', (Ite K a).yld i H x H' → g x (wipe σ vs) H' fun σ2 H2 => wipe σ2 vs = wipe σ vs ∧ tt σ2 H2 fun b H3 =>
        if b = true then te σ2 H3 fun y H4 => ∃ acc, H4 D = some (.lst acc) ∧ acc.length < sizeLine ∧ Nx (upd H4 D (.lst (acc ++ [y]))) else Nx H3) := by
  refine ⟨fun i m H => m = xs.length - i ∧ i ≤ xs.length ∧ ∃ acc, H D = some (.lst acc) ∧ P i acc H, ⟨xs.length, rfl, Nat.zero_le _, [], upd_same, h0 _ (Same.upd0 hD) upd_same⟩, ?_⟩
  rintro i m H ⟨rfl, hi, acc, e, p⟩
  have q := hl i acc H p
  by_cases hlt : i < xs.length
  · refine .inr ⟨⟨xs, xs[i], q, by simp [hlt]⟩, fun H => ∃ acc, H D = some (.lst acc) ∧ P (i + 1) acc H, fun H' p' => ⟨xs.length - (i + 1), by omega, rfl, hlt, p'⟩, fun v H' y => ?_⟩
    obtain ⟨T, x, rfl, nT, rfl, hx⟩ := y
    exact hs i x acc H T _ _ _ (hx xs q) p e nT (Same.upd0 nT) upd_same ⟨fun y H4 e4 z k => ⟨acc, e4, z, acc ++ [y], upd_same, k _ But.refl.upd upd_same⟩, fun H3 e3 k => ⟨acc, e3, k⟩⟩
  · have ei : i = xs.length := by omega
    subst ei
    exact .inl ⟨⟨xs, q, Nat.le_refl _⟩, hd acc H p e⟩
/-- over zip of two lists of one length -/
theorem lcZ (hlen : xs.length = zs.length) (P : Nat → List V → Hp → Prop) (h0 : ∀ H', Same H1 H' → H' D = some (.lst []) → P 0 [] H') (hD : H1 D = none) (hl : ∀ i acc H, P i acc H → SqL K H a xs ∧ SqL K H b zs)
    (hs : ∀ i x z acc H T H' Kt Kf, xs[i]? = some x → zs[i]? = some z → P i acc H → H D = some (.lst acc) → H T = none → Same H H' → H' T = some (.tup [x, z]) → LcK D (P (i + 1)) acc Kt Kf → LcT g tt te vs σ (.ref T) H' Kt Kf)
    (hd : ∀ acc H, P xs.length acc H → H D = some (.lst acc) → Qd H) :
    ∃ W : Nat → Nat → Hp → Prop, (∃ m, W 0 m (upd H1 D (.lst []))) ∧ ∀ i m H, W i m H →
      ((Itz K a b).stop i H ∧ Qd H) ∨ ((Itz K a b).go i H ∧ ∃ Nx : Hp → Prop, (∀ H', Nx H' → ∃ m', m' < m ∧ W (i + 1) m' H') ∧ ∀ x H', (Itz K a b).yld i H x H' → g x (wipe σ vs) H' fun σ2 H2 => wipe σ2 vs = wipe σ vs ∧ tt σ2 H2 fun b H3 =>
        if b = true then te σ2 H3 fun y H4 => ∃ acc, H4 D = some (.lst acc) ∧ acc.length < sizeLine ∧ Nx (upd H4 D (.lst (acc ++ [y]))) else Nx H3) := by
  refine ⟨fun i m H => m = xs.length - i ∧ i ≤ xs.length ∧ ∃ acc, H D = some (.lst acc) ∧ P i acc H, ⟨xs.length, rfl, Nat.zero_le _, [], upd_same, h0 _ (Same.upd0 hD) upd_same⟩, ?_⟩
  rintro i m H ⟨rfl, hi, acc, e, p⟩
  obtain ⟨q1, q2⟩ := hl i acc H p
  by_cases hlt : i < xs.length
  · have hlt2 : i < zs.length := by omega
    refine .inr ⟨⟨xs, zs, xs[i], zs[i], q1, q2, by simp [hlt], by simp [hlt2]⟩, fun H => ∃ acc, H D = some (.lst acc) ∧ P (i + 1) acc H, fun H' p' => ⟨xs.length - (i + 1), by omega, rfl, hlt, p'⟩, fun v H' y => ?_⟩
    obtain ⟨T, x, z, rfl, nT, rfl, hx, hz⟩ := y
    exact hs i x z acc H T _ _ _ (hx xs q1) (hz zs q2) p e nT (Same.upd0 nT) upd_same ⟨fun y H4 e4 z k => ⟨acc, e4, z, acc ++ [y], upd_same, k _ But.refl.upd upd_same⟩, fun H3 e3 k => ⟨acc, e3, k⟩⟩
  · have ei : i = xs.length := by omega
    subst ei
    exact .inl ⟨⟨xs, zs, q1, q2, .inl (Nat.le_refl _)⟩, hd acc H p e⟩
/-- items that hang on the item alone (what stands, stands): the list of those that are told -/
def lcYs (n : Nat) (ys : Nat → Option V) : List V := (List.range n).filterMap ys
theorem lcYs_succ (n : Nat) (ys : Nat → Option V) : lcYs (n + 1) ys = lcYs n ys ++ (ys n).toList := by
  unfold lcYs
  rw [List.range_succ, List.filterMap_append]
  cases h : ys n with
  | none => simp [h]
  | some y => simp [h]
theorem lcYs_len (n : Nat) (ys : Nat → Option V) : (lcYs n ys).length ≤ n := by
  unfold lcYs
  have := List.length_filterMap_le ys (List.range n)
  rw [List.length_range] at this
  exact this
theorem lcYs_const (n : Nat) (v : V) : lcYs n (fun _ => some v) = List.replicate n v := by
  induction n with
  | zero => rfl
  | succ n ih => rw [lcYs_succ, ih, List.replicate_succ']; rfl
/-- .. one for each item -/
theorem lcYs_map {α : Type} (f : α → V) : ∀ (xs : List α) (ys : Nat → Option V), (∀ i x, xs[i]? = some x → ys i = some (f x)) → lcYs xs.length ys = xs.map f := by
  intro xs ys h
  have key : ∀ n, n ≤ xs.length → lcYs n ys = (xs.take n).map f := by
    intro n
    induction n with
    | zero => intro _; rfl
    | succ n ih =>
      intro hn
      have hx : xs[n]? = some xs[n] := List.getElem?_eq_getElem (by omega)
      rw [lcYs_succ, ih (by omega), h n _ hx, List.take_add_one, hx, List.map_append]
      rfl
  rw [key _ (Nat.le_refl _), List.take_length]
/-- .. of those that a test keeps -/
theorem lcYs_filter {α : Type} (q : α → Bool) (f : α → V) : ∀ (xs : List α) (ys : Nat → Option V), (∀ i x, xs[i]? = some x → ys i = if q x = true then some (f x) else none) → lcYs xs.length ys = (xs.filter q).map f := by
  intro xs ys h
  have key : ∀ n, n ≤ xs.length → lcYs n ys = ((xs.take n).filter q).map f := by
    intro n
    induction n with
    | zero => intro _; rfl
    | succ n ih =>
      intro hn
      have hx : xs[n]? = some xs[n] := List.getElem?_eq_getElem (by omega)
      rw [lcYs_succ, ih (by omega), h n _ hx, List.take_add_one, hx, List.filter_append, List.map_append]
      congr 1
      cases hq : q xs[n] <;> simp [hq]
  rw [key _ (Nat.le_refl _), List.take_length]
/-- the ends of a turn that changes nothing -/
structure LcQ (H : Hp) (r : Option V) (Kt : V → Hp → Prop) (Kf : Hp → Prop) : Prop where
  yes : ∀ y H4, Same H H4 → r = some y → Kt y H4
  no : ∀ H3, Same H H3 → r = none → Kf H3
theorem lcQ_of {P : Nat → List V → Hp → Prop} {ys : Nat → Option V} {i : Nat} {acc : List V} {H H0 : Hp} {Kt : V → Hp → Prop} {Kf : Hp → Prop} (hP : P = fun i acc H => acc = lcYs i ys ∧ Same H1 H) (hD : H1 D = none) (hi : i < 100000)
    (p : P i acc H0) (e : H0 D = some (.lst acc)) (s : Same H0 H) (k : LcK D (P (i + 1)) acc Kt Kf) : LcQ H (ys i) Kt Kf := by
  subst hP
  obtain ⟨rfl, sm⟩ := p
  have hz : (lcYs i ys).length < sizeLine := Nat.lt_of_le_of_lt (lcYs_len i ys) (Nat.lt_of_lt_of_le hi (by decide))
  refine ⟨fun y H4 s4 ey => k.yes y H4 (s4 _ _ (s _ _ e)) hz fun H5 b5 _ => ⟨?_, ?_⟩, fun H3 s3 en => k.no H3 (s3 _ _ (s _ _ e)) ⟨?_, (sm.trans s).trans s3⟩⟩
  · rw [lcYs_succ, ey]; rfl
  · exact Same.mut' ((sm.trans s).trans s4) b5 hD
  · rw [lcYs_succ, en]; simp
theorem lcLq (ys : Nat → Option V) (hD : H1 D = none) (hx : SqL K H1 a xs) (hn : xs.length ≤ 100000)
    (hs : ∀ i x H Kt Kf, xs[i]? = some x → Same H1 H → LcQ H (ys i) Kt Kf → LcT g tt te vs σ x H Kt Kf)
    (hd : ∀ H, Same H1 H → H D = some (.lst (lcYs xs.length ys)) → Qd H) :
    ∃ W : Nat → Nat → Hp → Prop, (∃ m, W 0 m (upd H1 D (.lst []))) ∧ ∀ i m H, W i m H →
      ((Itl K a).stop i H ∧ Qd H) ∨ ((Itl K a).go i H ∧ ∃ Nx : Hp → Prop, (∀ H', Nx H' → ∃ m', m' < m ∧ W (i + 1) m' H') ∧ ∀ x H', (Itl K a).yld i H x H' → g x (wipe σ vs) H' fun σ2 H2 => wipe σ2 vs = wipe σ vs ∧ tt σ2 H2 fun b H3 =>
        if b = true then te σ2 H3 fun y H4 => ∃ acc, H4 D = some (.lst acc) ∧ acc.length < sizeLine ∧ Nx (upd H4 D (.lst (acc ++ [y]))) else Nx H3) :=
  lcL (fun i acc H => acc = lcYs i ys ∧ Same H1 H) (fun H' s _ => ⟨rfl, s⟩) hD (fun i acc H p => p.2.seq hx)
    (fun i x acc H Kt Kf hxi p e k => hs i x H Kt Kf hxi p.2 (lcQ_of rfl hD (by have := (List.getElem?_eq_some_iff.mp hxi).1; omega) p e (Same.refl H) k))
    (fun acc H p e => hd H p.2 (by rw [← p.1]; exact e))
theorem lcTq (ys : Nat → Option V) (hD : H1 D = none) (hx : SqT K H1 a xs) (hn : xs.length ≤ 100000)
    (hs : ∀ i x H Kt Kf, xs[i]? = some x → Same H1 H → LcQ H (ys i) Kt Kf → LcT g tt te vs σ x H Kt Kf)
    (hd : ∀ H, Same H1 H → H D = some (.lst (lcYs xs.length ys)) → Qd H) :
    ∃ W : Nat → Nat → Hp → Prop, (∃ m, W 0 m (upd H1 D (.lst []))) ∧ ∀ i m H, W i m H →
      ((Itt K a).stop i H ∧ Qd H) ∨ ((Itt K a).go i H ∧ ∃ Nx : Hp → Prop, (∀ H', Nx H' → ∃ m', m' < m ∧ W (i + 1) m' H') ∧ ∀ x H', (Itt K a).yld i H x H' → g x (wipe σ vs) H' fun σ2 H2 => wipe σ2 vs = wipe σ vs ∧ tt σ2 H2 fun b H3 =>
        if b = true then te σ2 H3 fun y H4 => ∃ acc, H4 D = some (.lst acc) ∧ acc.length < sizeLine ∧ Nx (upd H4 D (.lst (acc ++ [y]))) else Nx H3) :=
  lcT (fun i acc H => acc = lcYs i ys ∧ Same H1 H) (fun H' s _ => ⟨rfl, s⟩) hD (fun i acc H p => (show SqT K H a xs from by
      rcases hx with (h | ⟨o, h⟩) | h
      · exact .inl (.inl (p.2 _ _ h))
      · exact .inl (.inr ⟨o, p.2 _ _ h⟩)
      · exact .inr h))
    (fun i x acc H Kt Kf hxi p e k => hs i x H Kt Kf hxi p.2 (lcQ_of rfl hD (by have := (List.getElem?_eq_some_iff.mp hxi).1; omega) p e (Same.refl H) k))
    (fun acc H p e => hd H p.2 (by rw [← p.1]; exact e))
theorem lcRq {lo : Int} {n : Nat} (ys : Nat → Option V) (hD : H1 D = none) (hn : n ≤ 100000)
    (hs : ∀ i H Kt Kf, i < n → Same H1 H → LcQ H (ys i) Kt Kf → LcT g tt te vs σ (.int (lo + i)) H Kt Kf)
    (hd : ∀ H, Same H1 H → H D = some (.lst (lcYs n ys)) → Qd H) :
    ∃ W : Nat → Nat → Hp → Prop, (∃ m, W 0 m (upd H1 D (.lst []))) ∧ ∀ i m H, W i m H →
      ((Itr lo n).stop i H ∧ Qd H) ∨ ((Itr lo n).go i H ∧ ∃ Nx : Hp → Prop, (∀ H', Nx H' → ∃ m', m' < m ∧ W (i + 1) m' H') ∧ ∀ x H', (Itr lo n).yld i H x H' → g x (wipe σ vs) H' fun σ2 H2 => wipe σ2 vs = wipe σ vs ∧ tt σ2 H2 fun b H3 =>
        if b = true then te σ2 H3 fun y H4 => ∃ acc, H4 D = some (.lst acc) ∧ acc.length < sizeLine ∧ Nx (upd H4 D (.lst (acc ++ [y]))) else Nx H3) :=
  lcR (fun i acc H => acc = lcYs i ys ∧ Same H1 H) (fun H' s _ => ⟨rfl, s⟩) hD
    (fun i acc H Kt Kf hxi p e k => hs i H Kt Kf hxi p.2 (lcQ_of rfl hD (by omega) p e (Same.refl H) k))
    (fun acc H p e => hd H p.2 (by rw [← p.1]; exact e))
theorem lcEq (ys : Nat → Option V) (hD : H1 D = none) (hx : SqL K H1 a xs) (hn : xs.length ≤ 100000)
    (hs : ∀ i x T H Kt Kf, xs[i]? = some x → Same H1 H → H T = some (.tup [.int (i : Nat), x]) → LcQ H (ys i) Kt Kf → LcT g tt te vs σ (.ref T) H Kt Kf)
    (hd : ∀ H, Same H1 H → H D = some (.lst (lcYs xs.length ys)) → Qd H) :
    ∃ W : Nat → Nat → Hp → Prop, (∃ m, W 0 m (upd H1 D (.lst []))) ∧ ∀ i m H, W i m H →
      ((Ite K a).stop i H ∧ Qd H) ∨ ((Ite K a).go i H ∧ ∃ Nx : Hp → Prop, (∀ H', Nx H' → ∃ m', m' < m ∧ W (i + 1) m' H') ∧ ∀ x H', (Ite K a).yld i H x H' → g x (wipe σ vs) H' fun σ2 H2 => wipe σ2 vs = wipe σ vs ∧ tt σ2 H2 fun b H3 =>
        if b = true then te σ2 H3 fun y H4 => ∃ acc, H4 D = some (.lst acc) ∧ acc.length < sizeLine ∧ Nx (upd H4 D (.lst (acc ++ [y]))) else Nx H3) :=
  lcE (fun i acc H => acc = lcYs i ys ∧ Same H1 H) (fun H' s _ => ⟨rfl, s⟩) hD (fun i acc H p => p.2.seq hx)
    (fun i x acc H T H' Kt Kf hxi p e nT sT gT k => hs i x T H' Kt Kf hxi (p.2.trans sT) gT (lcQ_of rfl hD (by have := (List.getElem?_eq_some_iff.mp hxi).1; omega) p e sT k))
    (fun acc H p e => hd H p.2 (by rw [← p.1]; exact e))
theorem lcZq (ys : Nat → Option V) (hlen : xs.length = zs.length) (hD : H1 D = none) (hx : SqL K H1 a xs) (hz : SqL K H1 b zs) (hn : xs.length ≤ 100000)
    (hs : ∀ i x z T H Kt Kf, xs[i]? = some x → zs[i]? = some z → Same H1 H → H T = some (.tup [x, z]) → LcQ H (ys i) Kt Kf → LcT g tt te vs σ (.ref T) H Kt Kf)
    (hd : ∀ H, Same H1 H → H D = some (.lst (lcYs xs.length ys)) → Qd H) :
    ∃ W : Nat → Nat → Hp → Prop, (∃ m, W 0 m (upd H1 D (.lst []))) ∧ ∀ i m H, W i m H →
      ((Itz K a b).stop i H ∧ Qd H) ∨ ((Itz K a b).go i H ∧ ∃ Nx : Hp → Prop, (∀ H', Nx H' → ∃ m', m' < m ∧ W (i + 1) m' H') ∧ ∀ x H', (Itz K a b).yld i H x H' → g x (wipe σ vs) H' fun σ2 H2 => wipe σ2 vs = wipe σ vs ∧ tt σ2 H2 fun b H3 =>
        if b = true then te σ2 H3 fun y H4 => ∃ acc, H4 D = some (.lst acc) ∧ acc.length < sizeLine ∧ Nx (upd H4 D (.lst (acc ++ [y]))) else Nx H3) :=
  lcZ hlen (fun i acc H => acc = lcYs i ys ∧ Same H1 H) (fun H' s _ => ⟨rfl, s⟩) hD (fun i acc H p => ⟨p.2.seq hx, p.2.seq hz⟩)
    (fun i x z acc H T H' Kt Kf hxi hzi p e nT sT gT k => hs i x z T H' Kt Kf hxi hzi (p.2.trans sT) gT (lcQ_of rfl hD (by have := (List.getElem?_eq_some_iff.mp hxi).1; omega) p e sT k))
    (fun acc H p e => hd H p.2 (by rw [← p.1]; exact e))
end
/-- the items of a dict: it is held from there on (nobody else has it) -/
def iItemsN (td : TE) : TI := fun σ H R => td σ H fun x H1 => ∃ d kvs, x = .ref d ∧ H1 d = some (.dK kvs) ∧ ∀ o H2, But d H1 H2 → H2 d = some (.frz o (.dK kvs)) → R (Iti d o kvs) H2
theorem pi_itemsN {X : Cx} {e : Expr} {td : TE} {apos cpos : Pos} {elts : List Expr} {kk : Nat} {tpos : Pos} (he : PE X e td) (hbase : attributeBase e "items" X.env (eval e X.env) = eval e X.env := by rfl) (hline : (apos.endLine == cpos.line) = true := by rfl) :
    PI X (.Tuple elts kk tpos) (.Call (.Attribute e "items" apos) [] [] cpos) (iItemsN td) := by
  refine ⟨fun pins s σ H R I h => ?_⟩
  refine wpAny_Call_method (T := "dict") (id := "dict.items") hbase rfl hline F.plainAttrs_dict F.slot_dict_items F.type_dict_items (thn (he.run pins s σ H _ I h) fun u s1 ⟨x, H0, I0, rx, d, kvs, ex, hd0, q0⟩ => ?_)
  subst ex
  obtain rfl : u = Value.ref d := rx
  obtain ⟨o, I1⟩ := I0.lock hd0 trivial
  have hd : (upd H0 d (.frz o (.dK kvs))) d = some (.frz o (.dK kvs)) := upd_same
  have q := q0 o _ But.refl.upd hd
  generalize upd H0 d (.frz o (.dK kvs)) = H1 at I1 hd q
  obtain ⟨hs, hgd, hx, es, ep, vs, hdt, hsz, kv, hm⟩ := I1.frzK hd
  have hl : kvs.length = vs.length := Paired.length kv
  refine ⟨hm.dictOf.typeIs, hm.dictOf.mapOf.noDict, ?_⟩
  have I2 : Inv X pins σ H1 { s1 with heap := s1.heap.push { cls := .type "dict_items", data := .fields #[.ref d] } } := I1.kept (t' := s1.toks) fun b ob q => Heap.get?_push_of_some _ q
  have fin : wpAny (model X.prog X.w) X.A (pyIter (.ref s1.heap.objs.size)) (PIE X pins σ (.Tuple elts kk tpos) R) X.xe { s1 with heap := s1.heap.push { cls := .type "dict_items", data := .fields #[.ref d] } } := by
    refine wpAny_pyIter_items (d := d) (knd := mixKind X.prog X.w) ⟨_, Heap.get?_push_size _ rfl, rfl, rfl⟩ (hm.push _) (pi_one (tk := s1.toks) I2 _ (turn_items _ hdt) ⟨.none, .none, ?_⟩ q)
    rw [hl]
    exact Heap.get?_push_size _ rfl
  show wpAny _ _ (callWith cpos (.builtin "dict.items") [.ref d] [] []) _ X.xe s1
  exact method_meetsIn F.slot_dict_items F.entry_dict_items rfl (PySem.evalArgs_none ⟨rfl, hm.dictOf.typeIs, F.args_dict_items_1 _, _, meets_dict_items (mixKind X.prog X.w) d hs, ⟨vs, hm.dictOf⟩, fin⟩)
/-! ### loops over enumerate, zip, the items of a dict that nobody else holds -/
section
variable {K : PySem.W.Frag} {a b : Addr} {xs zs : List V} {g : TG} {tb : TS} {D : Ends} {σ : L2.St} {H : Hp}
theorem for_enum (Pv : Nat → L2.St → Hp → Prop) (h0 : Pv 0 σ H) (hl : ∀ i σ H, Pv i σ H → SqL K H a xs)
    (hs : ∀ i x T σ H H', xs[i]? = some x → Pv i σ H → H T = none → Same H H' → H' T = some (.tup [.int (i : Nat), x]) → g (.ref T) σ H' fun σ2 H2 => tb { D with nx := Pv (i + 1), ct := Pv (i + 1), bk := D.nx } σ2 H2) (hd : ∀ σ H, Pv xs.length σ H → D.nx σ H) :
    ∃ W : Nat → Nat → L2.St → Hp → Prop, (∃ m, W 0 m σ H) ∧ ∀ i m σ H, W i m σ H →
      ((Ite K a).stop i H ∧ D.nx σ H) ∨ ((Ite K a).go i H ∧ ∃ N : L2.St → Hp → Prop, (∀ σ' H', N σ' H' → ∃ m', m' < m ∧ W (i + 1) m' σ' H') ∧ ∀ v H', (Ite K a).yld i H v H' → g v σ H' fun σ2 H2 => tb { D with nx := N, ct := N, bk := D.nx } σ2 H2) := by
  refine ⟨fun i m σ H => m = xs.length - i ∧ i ≤ xs.length ∧ Pv i σ H, ⟨xs.length, rfl, Nat.zero_le _, h0⟩, ?_⟩
  rintro i m σ H ⟨rfl, hi, p⟩
  have q := hl i σ H p
  by_cases hlt : i < xs.length
  · refine .inr ⟨⟨xs, xs[i], q, by simp [hlt]⟩, Pv (i + 1), fun σ' H' p' => ⟨xs.length - (i + 1), by omega, rfl, hlt, p'⟩, fun v H' y => ?_⟩
    obtain ⟨T, x, rfl, nT, rfl, hx⟩ := y
    exact hs i x T σ H _ (hx xs q) p nT (Same.upd0 nT) upd_same
  · have ei : i = xs.length := by omega
    subst ei
    exact .inl ⟨⟨xs, q, Nat.le_refl _⟩, hd σ H p⟩
theorem for_zip (hlen : xs.length = zs.length) (Pv : Nat → L2.St → Hp → Prop) (h0 : Pv 0 σ H) (hl : ∀ i σ H, Pv i σ H → SqL K H a xs ∧ SqL K H b zs)
    (hs : ∀ i x z T σ H H', xs[i]? = some x → zs[i]? = some z → Pv i σ H → H T = none → Same H H' → H' T = some (.tup [x, z]) → g (.ref T) σ H' fun σ2 H2 => tb { D with nx := Pv (i + 1), ct := Pv (i + 1), bk := D.nx } σ2 H2) (hd : ∀ σ H, Pv xs.length σ H → D.nx σ H) :
    ∃ W : Nat → Nat → L2.St → Hp → Prop, (∃ m, W 0 m σ H) ∧ ∀ i m σ H, W i m σ H →
      ((Itz K a b).stop i H ∧ D.nx σ H) ∨ ((Itz K a b).go i H ∧ ∃ N : L2.St → Hp → Prop, (∀ σ' H', N σ' H' → ∃ m', m' < m ∧ W (i + 1) m' σ' H') ∧ ∀ v H', (Itz K a b).yld i H v H' → g v σ H' fun σ2 H2 => tb { D with nx := N, ct := N, bk := D.nx } σ2 H2) := by
  refine ⟨fun i m σ H => m = xs.length - i ∧ i ≤ xs.length ∧ Pv i σ H, ⟨xs.length, rfl, Nat.zero_le _, h0⟩, ?_⟩
  rintro i m σ H ⟨rfl, hi, p⟩
  obtain ⟨q1, q2⟩ := hl i σ H p
  by_cases hlt : i < xs.length
  · have hlt2 : i < zs.length := by omega
    refine .inr ⟨⟨xs, zs, xs[i], zs[i], q1, q2, by simp [hlt], by simp [hlt2]⟩, Pv (i + 1), fun σ' H' p' => ⟨xs.length - (i + 1), by omega, rfl, hlt, p'⟩, fun v H' y => ?_⟩
    obtain ⟨T, x, z, rfl, nT, rfl, hx, hz⟩ := y
    exact hs i x z T σ H _ (hx xs q1) (hz zs q2) p nT (Same.upd0 nT) upd_same
  · have ei : i = xs.length := by omega
    subst ei
    exact .inl ⟨⟨xs, zs, q1, q2, .inl (Nat.le_refl _)⟩, hd σ H p⟩
theorem for_items {d : Addr} {o : Obj} {kvs : List (Key × V)} (Pv : Nat → L2.St → Hp → Prop) (h0 : Pv 0 σ H) (hl : ∀ i σ H, Pv i σ H → H d = some (.frz o (.dK kvs)))
    (hs : ∀ i k v T σ H H', kvs[i]? = some (k, v) → Pv i σ H → H T = none → Same H H' → H' T = some (.tup [kV k, v]) → g (.ref T) σ H' fun σ2 H2 => tb { D with nx := Pv (i + 1), ct := Pv (i + 1), bk := D.nx } σ2 H2) (hd : ∀ σ H, Pv kvs.length σ H → D.nx σ H) :
    ∃ W : Nat → Nat → L2.St → Hp → Prop, (∃ m, W 0 m σ H) ∧ ∀ i m σ H, W i m σ H →
      ((Iti d o kvs).stop i H ∧ D.nx σ H) ∨ ((Iti d o kvs).go i H ∧ ∃ N : L2.St → Hp → Prop, (∀ σ' H', N σ' H' → ∃ m', m' < m ∧ W (i + 1) m' σ' H') ∧ ∀ v H', (Iti d o kvs).yld i H v H' → g v σ H' fun σ2 H2 => tb { D with nx := N, ct := N, bk := D.nx } σ2 H2) := by
  refine ⟨fun i m σ H => m = kvs.length - i ∧ i ≤ kvs.length ∧ Pv i σ H, ⟨kvs.length, rfl, Nat.zero_le _, h0⟩, ?_⟩
  rintro i m σ H ⟨rfl, hi, p⟩
  have q := hl i σ H p
  by_cases hlt : i < kvs.length
  · refine .inr ⟨⟨q, hlt⟩, Pv (i + 1), fun σ' H' p' => ⟨kvs.length - (i + 1), by omega, rfl, hlt, p'⟩, fun v H' y => ?_⟩
    obtain ⟨T, k, v, hx, rfl, nT, rfl⟩ := y
    exact hs i k v T σ H _ hx p nT (Same.upd0 nT) upd_same
  · have ei : i = kvs.length := by omega
    subst ei
    exact .inl ⟨⟨q, Nat.le_refl _⟩, hd σ H p⟩
end
/-! ### data, == -/
section
variable {K : PySem.W.Frag} {H H' : Hp}
theorem Same.seqT {a : Addr} {xs : List V} (e : Same H H') (h : SqT K H a xs) : SqT K H' a xs := by
  rcases h with (h | ⟨o, h⟩) | h
  · exact .inl (.inl (e _ _ h))
  · exact .inl (.inr ⟨o, e _ _ h⟩)
  · exact .inr h
mutual
theorem dp_mono (s : Same H H') : ∀ {v : V} {d : PyData}, Dp K H v d → Dp K H' v d
  | _, _, .non => .non
  | _, _, .bl b => .bl b
  | _, _, .int i => .int i
  | _, _, .str x => .str x
  | _, _, .lst h a => .lst (s.seq h) (dpAll_mono s a)
  | _, _, .tup h a => .tup (Same.seqT s h) (dpAll_mono s a)
theorem dpAll_mono (s : Same H H') : ∀ {vs : List V} {ds : List PyData}, DpAll K H vs ds → DpAll K H' vs ds
  | _, _, .nil => .nil
  | _, _, .cons h t => .cons (dp_mono s h) (dpAll_mono s t)
end
theorem dpAll_map {α : Type} {f : α → V} {g : α → PyData} (h : ∀ x, Dp K H (f x) (g x)) : ∀ xs : List α, DpAll K H (xs.map f) (xs.map g)
  | [] => .nil
  | x :: xs => .cons (h x) (dpAll_map h xs)
theorem dp_ints {a : Addr} {ns : List Int} (h : SqL K H a (ns.map V.int)) : Dp K H (.ref a) (.list (ns.map .int)) := .lst h (dpAll_map (fun i => .int i) ns)
def optD : Option Int → PyData
  | some i => .int i
  | none => .none
theorem dp_opt : ∀ x, Dp K H (optI x) (optD x)
  | some i => .int i
  | none => .non
theorem dp_opts {a : Addr} {ns : List (Option Int)} (h : SqL K H a (ns.map optI)) : Dp K H (.ref a) (.list (ns.map optD)) := .lst h (dpAll_map dp_opt ns)
end
mutual
/-- data without truths and dicts -/
def nob : PyData → Bool
  | .none | .int _ | .str _ => true
  | .bool _ | .dict _ => false
  | .list xs | .tuple xs => nobAll xs
def nobAll : List PyData → Bool
  | [] => true
  | x :: xs => nob x && nobAll xs
end
mutual
theorem eqv_iff : ∀ {d e : PyData}, nob d = true → nob e = true → (PyData.eqv d e = true ↔ d = e)
  | .none, .none, _, _ => by simp [PyData.eqv]
  | .none, .int _, _, _ => by simp [PyData.eqv]
  | .none, .str _, _, _ => by simp [PyData.eqv]
  | .none, .list _, _, _ => by simp [PyData.eqv]
  | .none, .tuple _, _, _ => by simp [PyData.eqv]
  | .int _, .none, _, _ => by simp [PyData.eqv]
  | .int _, .int _, _, _ => by simp [PyData.eqv]
  | .int _, .str _, _, _ => by simp [PyData.eqv]
  | .int _, .list _, _, _ => by simp [PyData.eqv]
  | .int _, .tuple _, _, _ => by simp [PyData.eqv]
  | .str _, .none, _, _ => by simp [PyData.eqv]
  | .str _, .int _, _, _ => by simp [PyData.eqv]
  | .str _, .str _, _, _ => by simp [PyData.eqv]
  | .str _, .list _, _, _ => by simp [PyData.eqv]
  | .str _, .tuple _, _, _ => by simp [PyData.eqv]
  | .list _, .none, _, _ => by simp [PyData.eqv]
  | .list _, .int _, _, _ => by simp [PyData.eqv]
  | .list _, .str _, _, _ => by simp [PyData.eqv]
  | .list xs, .list ys, h1, h2 => by
    have h := eqvAll_iff (xs := xs) (ys := ys) (by simpa [nob] using h1) (by simpa [nob] using h2)
    simp only [PyData.eqv, PyData.list.injEq]; exact h
  | .list _, .tuple _, _, _ => by simp [PyData.eqv]
  | .tuple _, .none, _, _ => by simp [PyData.eqv]
  | .tuple _, .int _, _, _ => by simp [PyData.eqv]
  | .tuple _, .str _, _, _ => by simp [PyData.eqv]
  | .tuple _, .list _, _, _ => by simp [PyData.eqv]
  | .tuple xs, .tuple ys, h1, h2 => by
    have h := eqvAll_iff (xs := xs) (ys := ys) (by simpa [nob] using h1) (by simpa [nob] using h2)
    simp only [PyData.eqv, PyData.tuple.injEq]; exact h
  | .bool _, _, h, _ => by simp [nob] at h
  | .dict _, _, h, _ => by simp [nob] at h
  | .none, .bool _, _, h => by simp [nob] at h
  | .none, .dict _, _, h => by simp [nob] at h
  | .int _, .bool _, _, h => by simp [nob] at h
  | .int _, .dict _, _, h => by simp [nob] at h
  | .str _, .bool _, _, h => by simp [nob] at h
  | .str _, .dict _, _, h => by simp [nob] at h
  | .list _, .bool _, _, h => by simp [nob] at h
  | .list _, .dict _, _, h => by simp [nob] at h
  | .tuple _, .bool _, _, h => by simp [nob] at h
  | .tuple _, .dict _, _, h => by simp [nob] at h
theorem eqvAll_iff : ∀ {xs ys : List PyData}, nobAll xs = true → nobAll ys = true → (PyData.eqvAll xs ys = true ↔ xs = ys)
  | [], [], _, _ => by simp [PyData.eqvAll]
  | [], _ :: _, _, _ => by simp [PyData.eqvAll]
  | _ :: _, [], _, _ => by simp [PyData.eqvAll]
  | x :: xs, y :: ys, h1, h2 => by
    simp only [nobAll, Bool.and_eq_true] at h1 h2
    have a := eqv_iff h1.1 h2.1
    have b := eqvAll_iff h1.2 h2.2
    simp only [PyData.eqvAll, Bool.and_eq_true, List.cons.injEq]
    rw [a, b]
end
theorem eqv_dec {d e : PyData} (h1 : nob d = true) (h2 : nob e = true) {b : Bool} (h : b = true ↔ d = e) : PyData.eqv d e = b := by
  have a := eqv_iff h1 h2
  cases hb : b with
  | true => rw [hb] at h; exact a.mpr (h.mp rfl)
  | false =>
    cases he : PyData.eqv d e with
    | false => rfl
    | true => have := h.mpr (a.mp he); rw [hb] at this; cases this
theorem nobAll_map {α : Type} {g : α → PyData} (h : ∀ x, nob (g x) = true) : ∀ xs : List α, nobAll (xs.map g) = true
  | [] => by simp [nobAll]
  | x :: xs => by simp only [List.map_cons, nobAll, h x, nobAll_map h xs, Bool.and_self]
theorem canLayAll0_map {α : Type} {g : α → PyData} (h : ∀ x, (g x).canLay0 = true) : ∀ xs : List α, PyData.canLayAll0 (xs.map g) = true
  | [] => by simp [PyData.canLayAll0]
  | x :: xs => by simp only [List.map_cons, PyData.canLayAll0, h x, canLayAll0_map h xs, Bool.and_self]
theorem depthAll_map {α : Type} {g : α → PyData} {m : Nat} (h : ∀ x, (g x).depth ≤ m) : ∀ xs : List α, PyData.depthAll (xs.map g) ≤ m
  | [] => by simp [PyData.depthAll]
  | x :: xs => by
    have h1 := h x
    have h2 := depthAll_map h xs
    simp only [List.map_cons, PyData.depthAll]; omega
theorem shaped_map {α : Type} {g : α → PyData} {m : Nat} (hm : m < 64) (h1 : ∀ x, (g x).canLay0 = true) (h2 : ∀ x, (g x).depth ≤ m) (xs : List α) : SeqAt.shaped (.list (xs.map g)) = true := by
  unfold SeqAt.shaped
  rw [Bool.and_eq_true]
  refine ⟨by simp only [PyData.canLay0]; exact canLayAll0_map h1 xs, decide_eq_true ?_⟩
  have := depthAll_map h2 xs
  simp only [PyData.depth]; omega
theorem shaped_ints (ns : List Int) : SeqAt.shaped (.list (ns.map .int)) = true := shaped_map (m := 0) (by decide) (fun _ => by simp [PyData.canLay0]) (fun _ => by simp [PyData.depth]) ns
theorem shaped_opts (ns : List (Option Int)) : SeqAt.shaped (.list (ns.map optD)) = true := shaped_map (m := 0) (by decide) (fun x => by cases x <;> simp [optD, PyData.canLay0]) (fun x => by cases x <;> simp [optD, PyData.depth]) ns
theorem nob_ints (ns : List Int) : nob (.list (ns.map .int)) = true := by simp only [nob]; exact nobAll_map (fun _ => by simp [nob]) ns
theorem nob_opts (ns : List (Option Int)) : nob (.list (ns.map optD)) = true := by simp only [nob]; exact nobAll_map (fun x => by cases x <;> simp [optD, nob]) ns
theorem map_inj {α β : Type} {f : α → β} (h : ∀ a b, f a = f b → a = b) : ∀ {xs ys : List α}, xs.map f = ys.map f → xs = ys
  | [], [], _ => rfl
  | [], _ :: _, e => by simp at e
  | _ :: _, [], e => by simp at e
  | x :: xs, y :: ys, e => by
    simp only [List.map_cons, List.cons.injEq] at e
    rw [h x y e.1, map_inj h e.2]
theorem eqv_ints (ns ms : List Int) : PyData.eqv (.list (ns.map .int)) (.list (ms.map .int)) = decide (ns = ms) :=
  eqv_dec (nob_ints ns) (nob_ints ms) (by
    rw [decide_eq_true_iff]
    exact ⟨fun e => by rw [e], fun e => map_inj (fun a b h => PyData.int.inj h) (PyData.list.inj e)⟩)
theorem eqv_opts (ns ms : List (Option Int)) : PyData.eqv (.list (ns.map optD)) (.list (ms.map optD)) = decide (ns = ms) :=
  eqv_dec (nob_opts ns) (nob_opts ms) (by
    rw [decide_eq_true_iff]
    exact ⟨fun e => by rw [e], fun e => map_inj (fun a b h => by cases a <;> cases b <;> simp_all [optD]) (PyData.list.inj e)⟩)
section
variable {X : Cx}
/-- two lists of ints -/
def rEqIs (K : PySem.W.Frag) : R2 := fun x y H Q => ∃ (a b : Addr) (ns ms : List Int), x = .ref a ∧ y = .ref b ∧ SqL K H a (ns.map V.int) ∧ SqL K H b (ms.map V.int) ∧ Q (.bl (decide (ns = ms))) H
def rNeIs (K : PySem.W.Frag) : R2 := fun x y H Q => ∃ (a b : Addr) (ns ms : List Int), x = .ref a ∧ y = .ref b ∧ SqL K H a (ns.map V.int) ∧ SqL K H b (ms.map V.int) ∧ Q (.bl (!decide (ns = ms))) H
theorem op_eqIs (hu : X.A.units + 64 < cLine) : OpR X (compareOp .Eq) (rEqIs X.K) := opR_imp (op_eqD hu) fun _ _ _ _ ⟨a, b, ns, ms, e1, e2, h1, h2, q⟩ => by
  subst e1 e2
  exact ⟨_, _, dp_ints h1, dp_ints h2, shaped_ints ns, shaped_ints ms, by rw [eqv_ints]; exact q⟩
theorem op_neIs (hu : X.A.units + 64 < cLine) : OpR X (compareOp .NotEq) (rNeIs X.K) := opR_imp (op_neD hu) fun _ _ _ _ ⟨a, b, ns, ms, e1, e2, h1, h2, q⟩ => by
  subst e1 e2
  exact ⟨_, _, dp_ints h1, dp_ints h2, shaped_ints ns, shaped_ints ms, by rw [eqv_ints]; exact q⟩
end
/-! ### rules that hang on the written part, the part by its name (a comprehension's block has the same one) -/
section
variable {X : Cx} {K : PySem.W.Frag}
theorem op_notInK (h : X.K = K) : OpR X (compareOp .NotIn) (rIn K true) := h ▸ op_notIn_seq
theorem op_inK (h : X.K = K) : OpR X (compareOp .In) (rIn K false) := h ▸ op_in_seq
theorem ix_listK (h : X.K = K) : IxR X (rIxL K) := h ▸ ix_list
theorem ix_tupK (h : X.K = K) : IxR X (rIxT K) := h ▸ ix_tup
theorem ix_seqK (h : X.K = K) : IxR X (rIx K) := h ▸ ix_seq
theorem op_catK (h : X.K = K) : OpR X (binaryOp .Add) (rCatA K) := h ▸ op_catA
theorem sl_listK (h : X.K = K) : SlR X (rSlA K) := h ▸ sl_listA
theorem op_eqDK (hu : X.A.units + 64 < cLine) (h : X.K = K) : OpR X (compareOp .Eq) (rEqD K) := h ▸ op_eqD hu
theorem op_neDK (hu : X.A.units + 64 < cLine) (h : X.K = K) : OpR X (compareOp .NotEq) (rNeD K) := h ▸ op_neD hu
theorem units65 {k : Nat} {A : Around} (r : Room k A) : A.units + 65 < cLine := by have := r.un; omega
theorem op_inDK (hu : X.A.units + 65 < cLine) (h : X.K = K) : OpR X (compareOp .In) (rInD K) := h ▸ op_inD hu
theorem op_notInDK (hu : X.A.units + 65 < cLine) (h : X.K = K) : OpR X (compareOp .NotIn) (rNotInD K) := h ▸ op_notInD hu
theorem op_eqIsK (hu : X.A.units + 64 < cLine) (h : X.K = K) : OpR X (compareOp .Eq) (rEqIs K) := h ▸ op_eqIs hu
theorem op_neIsK (hu : X.A.units + 64 < cLine) (h : X.K = K) : OpR X (compareOp .NotEq) (rNeIs K) := h ▸ op_neIs hu
theorem call_isiK (h : X.K = K) : CallR X (.builtin "isinstance") (rIsi K) := h ▸ call_isi
theorem call_isiTK (h : X.K = K) : CallR X (.builtin "isinstance") (rIsiT K) := h ▸ call_isiT
def rLen (K : PySem.W.Frag) : List V → Hp → VK → Prop := fun xs H Q => ∃ x n, xs = [x] ∧ LenV K x H n ∧ Q (.int n) H
theorem call_lenK (h : X.K = K) : CallR X (.builtin "len") (rLen K) := h ▸ call_len
theorem cr_sumK (hc : X.calm = true) (h : X.K = K) : CallR X (.builtin "sum") (rSum K) := h ▸ cr_sum hc
theorem cr_maxK (hc : X.calm = true) (h : X.K = K) : CallR X (.builtin "max") (rMax K) := h ▸ cr_max hc
theorem cr_minK (hc : X.calm = true) (h : X.K = K) : CallR X (.builtin "min") (rMin K) := h ▸ cr_min hc
theorem cr_anyK (hc : X.calm = true) (h : X.K = K) : CallR X (.builtin "any") (rAny K) := h ▸ cr_any hc
theorem cr_allK (hc : X.calm = true) (h : X.K = K) : CallR X (.builtin "all") (rAll K) := h ▸ cr_all hc
theorem call_listK (h : X.K = K) : CallR X (.type "list") (rListA K) := h ▸ call_listA
theorem call_tupLK (h : X.K = K) : CallR X (.type "tuple") (rTupLA K) := h ▸ call_tupLA
theorem pe_fldK {e : Expr} {f : Str} {pos : Pos} {ta : TE} (h : X.K = K) (he : PE X e ta) (hb : attributeBase e f X.env (eval e X.env) = eval e X.env) : PE X (.Attribute e f pos) (tFld K ta f) := h ▸ pe_fld he hb
theorem pi_listK {tg l : Expr} {tl : TE} (h : X.K = K) (hl : PE X l tl) : PI X tg l (iList K tl) := h ▸ pi_list hl
theorem pi_tupK {tg l : Expr} {tl : TE} (h : X.K = K) (hl : PE X l tl) : PI X tg l (iTup K tl) := h ▸ pi_tup hl
theorem pi_enumK {e : Expr} {ta : TA} {p pos tpos : Pos} {elts : List Expr} {kk : Nat} (h : X.K = K) (hg : Gl X "enumerate") (hm : X.mg "enumerate" = none) (ha : PA X [e] ta) (hs : starEach [e] X.env = [(false, eval e X.env)] := by rfl) :
    PI X (.Tuple elts kk tpos) (.Call (.Name "enumerate" p) [e] [] pos) (iEnum K ta) := h ▸ pi_enum hg hm ha hs
theorem pi_zipK {e e2 : Expr} {ta : TA} {p pos tpos : Pos} {elts : List Expr} {kk : Nat} (h : X.K = K) (hg : Gl X "zip") (hm : X.mg "zip" = none) (ha : PA X [e, e2] ta)
    (hs : starEach [e, e2] X.env = (false, eval e X.env) :: starEach [e2] X.env := by rfl) (hpl : (backTo pos (starEach [e2] X.env)).any (·.1) = false := by rfl) :
    PI X (.Tuple elts kk tpos) (.Call (.Name "zip" p) [e, e2] [] pos) (iZip K ta) := h ▸ pi_zip hg hm ha hs hpl
end
/-- a statement with what comes behind it by a name: M holds at its end -/
theorem seq_key {t u : TS} {D : Ends} {σ : L2.St} {H : Hp} (M : L2.St → Hp → Prop) (h2 : ∀ σ H, M σ H → u D σ H) (h1 : ∀ N : L2.St → Hp → Prop, (∀ σ H, M σ H → N σ H) → t { D with nx := N } σ H) : tSeq t u D σ H := h1 _ h2
theorem isIf {a : TT} {b c d : TS} {D : Ends} {σ : L2.St} {H : Hp} (h : tSeq (tIfS a b c) d D σ H) : tSeq (tIfS a b c) d D σ H := h
theorem iteF' {c : Bool} {A B : Prop} (hc : c = false) (h : B) : if c = true then A else B := by
  subst hc; exact iteF h
theorem iteT' {c : Bool} {A B : Prop} (hc : c = true) (h : A) : if c = true then A else B := by
  subst hc; exact iteT h
theorem Dr.seqT {K : PySem.W.Frag} {H H' : Hp} {a b : Addr} {xs : List V} (e : Dr a H H') (n : b ≠ a) (h : SqT K H b xs) : SqT K H' b xs := by
  rcases h with (h | ⟨o, h⟩) | h
  · exact .inl (.inl (e.b _ _ n h))
  · exact .inl (.inr ⟨o, e.b _ _ n h⟩)
  · exact .inr h
theorem int_inj_dec {i j : Int} : decide (V.int i = V.int j) = decide (i = j) := decide_eq_decide.mpr ⟨V.int.inj, fun e => e ▸ rfl⟩
/-- an item of a short written list -/
theorem pick2 {P : V → Prop} {a b : V} {n : Int} (h0 : 0 ≤ n) (h1 : n < 2) (ha : P a) (hb : P b) : ∃ x, atI [a, b] n = some x ∧ P x := by
  have : n = 0 ∨ n = 1 := by omega
  rcases this with rfl | rfl
  · exact ⟨a, rfl, ha⟩
  · exact ⟨b, rfl, hb⟩
theorem pick3 {P : V → Prop} {a b c : V} {n : Int} (h0 : 0 ≤ n) (h1 : n < 3) (ha : P a) (hb : P b) (hc : P c) : ∃ x, atI [a, b, c] n = some x ∧ P x := by
  have : n = 0 ∨ n = 1 ∨ n = 2 := by omega
  rcases this with rfl | rfl | rfl
  · exact ⟨a, rfl, ha⟩
  · exact ⟨b, rfl, hb⟩
  · exact ⟨c, rfl, hc⟩
theorem pick4 {P : V → Prop} {a b c d : V} {n : Int} (h0 : 0 ≤ n) (h1 : n < 4) (ha : P a) (hb : P b) (hc : P c) (hd : P d) : ∃ x, atI [a, b, c, d] n = some x ∧ P x := by
  have : n = 0 ∨ n = 1 ∨ n = 2 ∨ n = 3 := by omega
  rcases this with rfl | rfl | rfl | rfl
  · exact ⟨a, rfl, ha⟩
  · exact ⟨b, rfl, hb⟩
  · exact ⟨c, rfl, hc⟩
  · exact ⟨d, rfl, hd⟩
theorem pick5 {P : V → Prop} {a b c d e : V} {n : Int} (h0 : 0 ≤ n) (h1 : n < 5) (ha : P a) (hb : P b) (hc : P c) (hd : P d) (he : P e) : ∃ x, atI [a, b, c, d, e] n = some x ∧ P x := by
  have : n = 0 ∨ n = 1 ∨ n = 2 ∨ n = 3 ∨ n = 4 := by omega
  rcases this with rfl | rfl | rfl | rfl | rfl
  · exact ⟨a, rfl, ha⟩
  · exact ⟨b, rfl, hb⟩
  · exact ⟨c, rfl, hc⟩
  · exact ⟨d, rfl, hd⟩
  · exact ⟨e, rfl, he⟩
theorem pick6 {P : V → Prop} {a b c d e f : V} {n : Int} (h0 : 0 ≤ n) (h1 : n < 6) (ha : P a) (hb : P b) (hc : P c) (hd : P d) (he : P e) (hf : P f) : ∃ x, atI [a, b, c, d, e, f] n = some x ∧ P x := by
  have : n = 0 ∨ n = 1 ∨ n = 2 ∨ n = 3 ∨ n = 4 ∨ n = 5 := by omega
  rcases this with rfl | rfl | rfl | rfl | rfl | rfl
  · exact ⟨a, rfl, ha⟩
  · exact ⟨b, rfl, hb⟩
  · exact ⟨c, rfl, hc⟩
  · exact ⟨d, rfl, hd⟩
  · exact ⟨e, rfl, he⟩
  · exact ⟨f, rfl, hf⟩
/-- an int within bounds -/
def InR (lo hi : Int) (x : V) : Prop := ∃ z, x = .int z ∧ lo ≤ z ∧ z < hi
/-! ### isinstance of plain things -/
section
variable {X : Cx}
def rIs (T : String) (ans : V → String → Bool) : List V → Hp → VK → Prop := fun xs H Q => ∃ x t, xs = [x, .ty T] ∧ Ty7 H x t ∧ Q (.bl (ans x t)) H
theorem call_isTy (T : String) (ans : V → String → Bool) (h : ∀ H x t, Ty7 H x t → kitB t T = some (ans x t)) : CallR X (.builtin "isinstance") (rIs T ans) :=
  callR_imp call_isi fun _ H Q ⟨x, t, e, ht, q⟩ => ⟨x, _, _, _, _, e, .ty _, ht.tx, kit_ty (h H x t ht), q⟩
theorem is_list : CallR X (.builtin "isinstance") (rIs "list" fun _ t => decide (t = "list")) := call_isTy _ _ fun _ _ _ h => h.kl
theorem is_tuple : CallR X (.builtin "isinstance") (rIs "tuple" fun _ t => decide (t = "tuple")) := call_isTy _ _ fun _ _ _ h => h.kt
theorem is_str : CallR X (.builtin "isinstance") (rIs "str" fun _ t => decide (t = "str")) := call_isTy _ _ fun _ _ _ h => h.ks
theorem is_int : CallR X (.builtin "isinstance") (rIs "int" fun x _ => isI x || isB x) := call_isTy _ _ fun _ _ _ h => h.ki
theorem is_bool : CallR X (.builtin "isinstance") (rIs "bool" fun x _ => isB x) := call_isTy _ _ fun _ _ _ h => h.kb
end
/-! ### comprehensions, shorter: one item for each, those that a test keeps, items that draw -/
section
variable {K : PySem.W.Frag} {a b s : Addr} {g : TG} {tt : TT} {te : TE} {vs : List Nat} {σ : L2.St} {H1 : Hp} {D : Addr} {Qd : Hp → Prop} {α β : Type}
abbrev LcG (I : It) (g : TG) (tt : TT) (te : TE) (vs : List Nat) (σ : L2.St) (H1 : Hp) (D : Addr) (Qd : Hp → Prop) : Prop :=
    ∃ W : Nat → Nat → Hp → Prop, (∃ m, W 0 m (upd H1 D (.lst []))) ∧ ∀ i m H, W i m H →
      (I.stop i H ∧ Qd H) ∨ (I.go i H ∧ ∃ Nx : Hp → Prop, (∀ H', Nx H' → ∃ m', m' < m ∧ W (i + 1) m' H') ∧ ∀ x H', I.yld i H x H' → g x (wipe σ vs) H' fun σ2 H2 => wipe σ2 vs = wipe σ vs ∧ tt σ2 H2 fun b H3 =>
        if b = true then te σ2 H3 fun y H4 => ∃ acc, H4 D = some (.lst acc) ∧ acc.length < sizeLine ∧ Nx (upd H4 D (.lst (acc ++ [y]))) else Nx H3)
def ysF (f : α → V) (q : α → Bool) (xs : List α) (i : Nat) : Option V := xs[i]?.bind fun x => if q x = true then some (f x) else none
theorem ysF_all (f : α → V) (q : α → Bool) (xs : List α) : lcYs xs.length (ysF f q xs) = (xs.filter q).map f := lcYs_filter q f xs _ fun i x h => by unfold ysF; rw [h]; rfl
theorem ysF_one (f : α → V) (xs : List α) : lcYs xs.length (ysF f (fun _ => true) xs) = xs.map f := by
  rw [ysF_all, List.filter_eq_self.mpr fun _ _ => rfl]
theorem of_map {ρ : α → V} {ys : List α} {i : Nat} {x : V} (h : (ys.map ρ)[i]? = some x) : ∃ y, ys[i]? = some y ∧ x = ρ y := by
  rw [List.getElem?_map] at h
  cases e : ys[i]? with
  | none => rw [e] at h; cases h
  | some z => rw [e] at h; exact ⟨z, rfl, (Option.some.inj h).symm⟩
theorem lcLf (ρ f : α → V) (q : α → Bool) {ys : List α} (hD : H1 D = none) (hx : SqL K H1 a (ys.map ρ)) (hn : ys.length ≤ 100000)
    (hs : ∀ (i : Nat) (y : α) (H : Hp) (Kt : V → Hp → Prop) (Kf : Hp → Prop), ys[i]? = some y → Same H1 H → (q y = true → ∀ H4, Same H H4 → Kt (f y) H4) → (q y = false → ∀ H4, Same H H4 → Kf H4) → LcT g tt te vs σ (ρ y) H Kt Kf)
    (hd : ∀ H, Same H1 H → H D = some (.lst ((ys.filter q).map f)) → Qd H) : LcG (Itl K a) g tt te vs σ H1 D Qd :=
  lcLq (ysF f q ys) hD hx (by rw [List.length_map]; exact hn) (fun i x H Kt Kf hxi s qq => by
    obtain ⟨y, hy, rfl⟩ := of_map hxi
    exact hs i y H Kt Kf hy s (fun e H4 s4 => qq.yes _ _ s4 (by unfold ysF; rw [hy]; exact if_pos e)) (fun e H4 s4 => qq.no _ s4 (by unfold ysF; rw [hy]; exact if_neg (by rw [e]; simp))))
    (fun H s h => hd H s (by rw [h, List.length_map, ysF_all]))
theorem lcLm (ρ f : α → V) {ys : List α} (hD : H1 D = none) (hx : SqL K H1 a (ys.map ρ)) (hn : ys.length ≤ 100000)
    (hs : ∀ (i : Nat) (y : α) (H : Hp) (Kt : V → Hp → Prop) (Kf : Hp → Prop), ys[i]? = some y → Same H1 H → (∀ H4, Same H H4 → Kt (f y) H4) → LcT g tt te vs σ (ρ y) H Kt Kf)
    (hd : ∀ H, Same H1 H → H D = some (.lst (ys.map f)) → Qd H) : LcG (Itl K a) g tt te vs σ H1 D Qd :=
  lcLf ρ f (fun _ => true) hD hx hn (fun i y H Kt Kf hy s h _ => hs i y H Kt Kf hy s (h rfl)) (fun H s h => hd H s (by rw [h, List.filter_eq_self.mpr fun _ _ => rfl]))
theorem lcTf (ρ f : α → V) (q : α → Bool) {ys : List α} (hD : H1 D = none) (hx : SqT K H1 a (ys.map ρ)) (hn : ys.length ≤ 100000)
    (hs : ∀ (i : Nat) (y : α) (H : Hp) (Kt : V → Hp → Prop) (Kf : Hp → Prop), ys[i]? = some y → Same H1 H → (q y = true → ∀ H4, Same H H4 → Kt (f y) H4) → (q y = false → ∀ H4, Same H H4 → Kf H4) → LcT g tt te vs σ (ρ y) H Kt Kf)
    (hd : ∀ H, Same H1 H → H D = some (.lst ((ys.filter q).map f)) → Qd H) : LcG (Itt K a) g tt te vs σ H1 D Qd :=
  lcTq (ysF f q ys) hD hx (by rw [List.length_map]; exact hn) (fun i x H Kt Kf hxi s qq => by
    obtain ⟨y, hy, rfl⟩ := of_map hxi
    exact hs i y H Kt Kf hy s (fun e H4 s4 => qq.yes _ _ s4 (by unfold ysF; rw [hy]; exact if_pos e)) (fun e H4 s4 => qq.no _ s4 (by unfold ysF; rw [hy]; exact if_neg (by rw [e]; simp))))
    (fun H s h => hd H s (by rw [h, List.length_map, ysF_all]))
theorem lcTm (ρ f : α → V) {ys : List α} (hD : H1 D = none) (hx : SqT K H1 a (ys.map ρ)) (hn : ys.length ≤ 100000)
    (hs : ∀ (i : Nat) (y : α) (H : Hp) (Kt : V → Hp → Prop) (Kf : Hp → Prop), ys[i]? = some y → Same H1 H → (∀ H4, Same H H4 → Kt (f y) H4) → LcT g tt te vs σ (ρ y) H Kt Kf)
    (hd : ∀ H, Same H1 H → H D = some (.lst (ys.map f)) → Qd H) : LcG (Itt K a) g tt te vs σ H1 D Qd :=
  lcTf ρ f (fun _ => true) hD hx hn (fun i y H Kt Kf hy s h _ => hs i y H Kt Kf hy s (h rfl)) (fun H s h => hd H s (by rw [h, List.filter_eq_self.mpr fun _ _ => rfl]))
theorem range_get {n i : Nat} (h : i < n) : (List.range n)[i]? = some i := List.getElem?_range h
theorem lcRf {lo : Int} {n : Nat} (f : Nat → V) (q : Nat → Bool) (hD : H1 D = none) (hn : n ≤ 100000)
    (hs : ∀ (i : Nat) (H : Hp) (Kt : V → Hp → Prop) (Kf : Hp → Prop), i < n → Same H1 H → (q i = true → ∀ H4, Same H H4 → Kt (f i) H4) → (q i = false → ∀ H4, Same H H4 → Kf H4) → LcT g tt te vs σ (.int (lo + i)) H Kt Kf)
    (hd : ∀ H, Same H1 H → H D = some (.lst (((List.range n).filter q).map f)) → Qd H) : LcG (Itr lo n) g tt te vs σ H1 D Qd :=
  lcRq (ysF f q (List.range n)) hD hn (fun i H Kt Kf hi s qq =>
    hs i H Kt Kf hi s (fun e H4 s4 => qq.yes _ _ s4 (by unfold ysF; rw [range_get hi]; exact if_pos e)) (fun e H4 s4 => qq.no _ s4 (by unfold ysF; rw [range_get hi]; exact if_neg (by rw [e]; simp))))
    (fun H s h => hd H s (by have := ysF_all f q (List.range n); rw [List.length_range] at this; rw [h, this]))
theorem lcRm {lo : Int} {n : Nat} (f : Nat → V) (hD : H1 D = none) (hn : n ≤ 100000)
    (hs : ∀ (i : Nat) (H : Hp) (Kt : V → Hp → Prop) (Kf : Hp → Prop), i < n → Same H1 H → (∀ H4, Same H H4 → Kt (f i) H4) → LcT g tt te vs σ (.int (lo + i)) H Kt Kf)
    (hd : ∀ H, Same H1 H → H D = some (.lst ((List.range n).map f)) → Qd H) : LcG (Itr lo n) g tt te vs σ H1 D Qd :=
  lcRf f (fun _ => true) hD hn (fun i H Kt Kf hi s h _ => hs i H Kt Kf hi s (h rfl)) (fun H s h => hd H s (by rw [h, List.filter_eq_self.mpr fun _ _ => rfl]))
/-- items that draw from the source at s -/
theorem lcRd {lo : Int} {n : Nat} (ρ : β → V) (R : Nat → β → Prop) (h0 : Src H1 s) (hD : H1 D = none) (hn : n ≤ 100000)
    (hs : ∀ (i : Nat) (H : Hp) (Kt : V → Hp → Prop) (Kf : Hp → Prop), i < n → Dr s H1 H → (∀ b H4, Dr s H H4 → R i b → Kt (ρ b) H4) → LcT g tt te vs σ (.int (lo + i)) H Kt Kf)
    (hd : ∀ (us : List β) (H : Hp), Dr s H1 H → us.length = n → (∀ (i : Nat) (b : β), us[i]? = some b → R i b) → D ≠ s → H D = some (.lst (us.map ρ)) → Qd H) : LcG (Itr lo n) g tt te vs σ H1 D Qd :=
  have nD : D ≠ s := h0.ne hD
  lcR (fun i acc H' => Dr s H1 H' ∧ ∃ us : List β, acc = us.map ρ ∧ us.length = i ∧ ∀ (i : Nat) (b : β), us[i]? = some b → R i b)
    (fun H' s' _ => ⟨Dr.of h0 s', [], rfl, rfl, fun i b h => by cases h⟩) hD (fun i acc H' Kt Kf hi p e kk => by
      obtain ⟨dp, us, rfl, hul, hub⟩ := p
      exact hs i H' Kt Kf hi dp fun b H4 d4 hR => kk.yes _ _ (d4.app nD e) (Nat.lt_of_lt_of_le (show _ < 100001 by rw [List.length_map]; omega) (by decide)) fun H5 b5 g5 => ⟨Dr.mut (dp.trans d4) b5 hD nD.symm, us ++ [b], by rw [List.map_append]; rfl, by rw [List.length_append, hul]; rfl, fun j c hc => by
        by_cases hj : j < us.length
        · rw [List.getElem?_append_left hj] at hc; exact hub j c hc
        · have hj2 : j = i := by
            have := (List.getElem?_eq_some_iff.mp hc).1
            rw [List.length_append] at this
            simp at this; omega
          subst hj2
          rw [← hul, List.getElem?_concat_length] at hc
          cases hc; exact hR⟩)
    (fun acc H' p e => by
      obtain ⟨dp, us, rfl, hul, hub⟩ := p
      exact hd us H' dp hul hub nD e)
theorem lcLd (ρ0 : α → V) (ρ : β → V) (R : Nat → β → Prop) {ys : List α} (h0 : Src H1 s) (hD : H1 D = none) (na : a ≠ s) (hx : SqL K H1 a (ys.map ρ0)) (hn : ys.length ≤ 100000)
    (hs : ∀ (i : Nat) (y : α) (H : Hp) (Kt : V → Hp → Prop) (Kf : Hp → Prop), ys[i]? = some y → Dr s H1 H → (∀ b H4, Dr s H H4 → R i b → Kt (ρ b) H4) → LcT g tt te vs σ (ρ0 y) H Kt Kf)
    (hd : ∀ (us : List β) (H : Hp), Dr s H1 H → us.length = ys.length → (∀ (i : Nat) (b : β), us[i]? = some b → R i b) → D ≠ s → H D = some (.lst (us.map ρ)) → Qd H) : LcG (Itl K a) g tt te vs σ H1 D Qd :=
  have nD : D ≠ s := h0.ne hD
  lcL (fun i acc H' => Dr s H1 H' ∧ ∃ us : List β, acc = us.map ρ ∧ us.length = i ∧ ∀ (i : Nat) (b : β), us[i]? = some b → R i b)
    (fun H' s' _ => ⟨Dr.of h0 s', [], rfl, rfl, fun i b h => by cases h⟩) hD (fun i acc H' p => p.1.seq na hx) (fun i x acc H' Kt Kf hxi p e kk => by
      obtain ⟨y, hy, rfl⟩ := of_map hxi
      have hi := (List.getElem?_eq_some_iff.mp hy).1
      obtain ⟨dp, us, rfl, hul, hub⟩ := p
      exact hs i y H' Kt Kf hy dp fun b H4 d4 hR => kk.yes _ _ (d4.app nD e) (Nat.lt_of_lt_of_le (show _ < 100001 by rw [List.length_map]; omega) (by decide)) fun H5 b5 g5 => ⟨Dr.mut (dp.trans d4) b5 hD nD.symm, us ++ [b], by rw [List.map_append]; rfl, by rw [List.length_append, hul]; rfl, fun j c hc => by
        by_cases hj : j < us.length
        · rw [List.getElem?_append_left hj] at hc; exact hub j c hc
        · have hj2 : j = i := by
            have := (List.getElem?_eq_some_iff.mp hc).1
            rw [List.length_append] at this
            simp at this; omega
          subst hj2
          rw [← hul, List.getElem?_concat_length] at hc
          cases hc; exact hR⟩)
    (fun acc H' p e => by
      obtain ⟨dp, us, rfl, hul, hub⟩ := p
      rw [List.length_map] at hul
      exact hd us H' dp hul hub nD e)
/-- items that are new objects: R holds of each, as long as nothing but the list itself changes -/
theorem lcLs (ρ0 : α → V) {ys : List α} (R : Nat → V → Hp → Prop) (mono : ∀ i v H H' acc, R i v H → H D = some (.lst acc) → But D H H' → R i v H') (hD : H1 D = none) (hx : SqL K H1 a (ys.map ρ0)) (hn : ys.length ≤ 100000)
    (hs : ∀ (i : Nat) (y : α) (H : Hp) (Kt : V → Hp → Prop) (Kf : Hp → Prop) (acc : List V), ys[i]? = some y → Same H1 H → H D = some (.lst acc) → (∀ v H4, Same H H4 → R i v H4 → Kt v H4) → LcT g tt te vs σ (ρ0 y) H Kt Kf)
    (hd : ∀ (us : List V) (H : Hp), Same H1 H → us.length = ys.length → (∀ (i : Nat) (b : V), us[i]? = some b → R i b H) → H D = some (.lst us) → Qd H) : LcG (Itl K a) g tt te vs σ H1 D Qd :=
  lcL (fun i acc H' => Same H1 H' ∧ acc.length = i ∧ ∀ (i : Nat) (b : V), acc[i]? = some b → R i b H')
    (fun H' s' _ => ⟨s', rfl, fun i b h => by cases h⟩) hD (fun i acc H' p => p.1.seq hx) (fun i x acc H' Kt Kf hxi p e kk => by
      obtain ⟨y, hy, rfl⟩ := of_map hxi
      have hi := (List.getElem?_eq_some_iff.mp hy).1
      obtain ⟨dp, hul, hub⟩ := p
      exact hs i y H' Kt Kf acc hy dp e fun b H4 s4 hR => kk.yes _ _ (s4 _ _ e) (Nat.lt_of_lt_of_le (show _ < 100001 by omega) (by decide)) fun H5 b5 g5 => ⟨Same.mut' (dp.trans s4) b5 hD, by rw [List.length_append, hul]; rfl, fun j c hc => by
        by_cases hj : j < acc.length
        · rw [List.getElem?_append_left hj] at hc
          exact mono _ _ _ _ _ (mono _ _ _ _ _ (hub j c hc) e (Same.but s4)) (s4 _ _ e) b5
        · have hj2 : j = i := by
            have := (List.getElem?_eq_some_iff.mp hc).1
            rw [List.length_append] at this
            simp at this; omega
          subst hj2
          rw [← hul, List.getElem?_concat_length] at hc
          cases hc; exact mono _ _ _ _ _ hR (s4 _ _ e) b5⟩)
    (fun acc H' p e => by
      obtain ⟨dp, hul, hub⟩ := p
      rw [List.length_map] at hul
      exact hd acc H' dp hul hub e)
/-- items that are drawn and are new objects -/
theorem lcRo {lo : Int} {n : Nat} (R : Nat → V → Hp → Prop) (monoD : ∀ i v H H' acc, R i v H → H D = some (.lst acc) → But D H H' → R i v H') (monoS : ∀ i v H H', R i v H → Src H s → Dr s H H' → R i v H') (h0 : Src H1 s) (hD : H1 D = none) (hn : n ≤ 100000)
    (hs : ∀ (i : Nat) (H : Hp) (Kt : V → Hp → Prop) (Kf : Hp → Prop) (acc : List V), i < n → Dr s H1 H → H D = some (.lst acc) → (∀ v H4, Dr s H H4 → R i v H4 → Kt v H4) → LcT g tt te vs σ (.int (lo + i)) H Kt Kf)
    (hd : ∀ (us : List V) (H : Hp), Dr s H1 H → us.length = n → (∀ (i : Nat) (b : V), us[i]? = some b → R i b H) → D ≠ s → H D = some (.lst us) → Qd H) : LcG (Itr lo n) g tt te vs σ H1 D Qd :=
  have nD : D ≠ s := h0.ne hD
  lcR (fun i acc H' => Dr s H1 H' ∧ acc.length = i ∧ ∀ (i : Nat) (b : V), acc[i]? = some b → R i b H')
    (fun H' s' _ => ⟨Dr.of h0 s', rfl, fun i b h => by cases h⟩) hD (fun i acc H' Kt Kf hi p e kk => by
      obtain ⟨dp, hul, hub⟩ := p
      exact hs i H' Kt Kf acc hi dp e fun b H4 d4 hR => kk.yes _ _ (d4.app nD e) (Nat.lt_of_lt_of_le (show _ < 100001 by omega) (by decide)) fun H5 b5 g5 => ⟨Dr.mut (dp.trans d4) b5 hD nD.symm, by rw [List.length_append, hul]; rfl, fun j c hc => by
        by_cases hj : j < acc.length
        · rw [List.getElem?_append_left hj] at hc
          exact monoD _ _ _ _ _ (monoS _ _ _ _ (hub j c hc) dp.s d4) (d4.app nD e) b5
        · have hj2 : j = i := by
            have := (List.getElem?_eq_some_iff.mp hc).1
            rw [List.length_append] at this
            simp at this; omega
          subst hj2
          rw [← hul, List.getElem?_concat_length] at hc
          cases hc; exact monoD _ _ _ _ _ hR (d4.app nD e) b5⟩)
    (fun acc H' p e => by
      obtain ⟨dp, hul, hub⟩ := p
      exact hd acc H' dp hul hub nD e)
/-- over a list that stands for another one -/
theorem lcLr {xs : List V} {qs : List α} (f : α → V) (q : α → Bool) (hl : xs.length = qs.length) (hD : H1 D = none) (hx : SqL K H1 a xs) (hn : xs.length ≤ 100000)
    (hs : ∀ (i : Nat) (x : V) (y : α) (H : Hp) (Kt : V → Hp → Prop) (Kf : Hp → Prop), xs[i]? = some x → qs[i]? = some y → Same H1 H → (q y = true → ∀ H4, Same H H4 → Kt (f y) H4) → (q y = false → ∀ H4, Same H H4 → Kf H4) → LcT g tt te vs σ x H Kt Kf)
    (hd : ∀ H, Same H1 H → H D = some (.lst ((qs.filter q).map f)) → Qd H) : LcG (Itl K a) g tt te vs σ H1 D Qd :=
  lcLq (ysF f q qs) hD hx hn (fun i x H Kt Kf hxi s qq => by
    have hi := (List.getElem?_eq_some_iff.mp hxi).1
    have hy : qs[i]? = some qs[i] := List.getElem?_eq_getElem (by omega)
    exact hs i x _ H Kt Kf hxi hy s (fun e H4 s4 => qq.yes _ _ s4 (by unfold ysF; rw [hy]; exact if_pos e)) (fun e H4 s4 => qq.no _ s4 (by unfold ysF; rw [hy]; exact if_neg (by rw [e]; simp))))
    (fun H s h => hd H s (by rw [h, hl, ysF_all]))
/-- over zip, by places -/
theorem lcZf {xs zs : List V} {n : Nat} (X Z f : Nat → V) (q : Nat → Bool) (lx : xs.length = n) (lz : zs.length = n) (hX : ∀ i, i < n → xs[i]? = some (X i)) (hZ : ∀ i, i < n → zs[i]? = some (Z i)) (hD : H1 D = none) (hx : SqL K H1 a xs) (hz : SqL K H1 b zs) (hn : n ≤ 100000)
    (hs : ∀ (i : Nat) (T : Addr) (H : Hp) (Kt : V → Hp → Prop) (Kf : Hp → Prop), i < n → Same H1 H → H T = some (.tup [X i, Z i]) → (q i = true → ∀ H4, Same H H4 → Kt (f i) H4) → (q i = false → ∀ H4, Same H H4 → Kf H4) → LcT g tt te vs σ (.ref T) H Kt Kf)
    (hd : ∀ H, Same H1 H → H D = some (.lst (((List.range n).filter q).map f)) → Qd H) : LcG (Itz K a b) g tt te vs σ H1 D Qd :=
  lcZq (xs := xs) (zs := zs) (ysF f q (List.range n)) (by rw [lx, lz]) hD hx hz (by omega) (fun i x z T H Kt Kf hxi hzi s gT qq => by
    have hi : i < n := by have := (List.getElem?_eq_some_iff.mp hxi).1; omega
    rw [hX i hi] at hxi
    rw [hZ i hi] at hzi
    cases hxi
    cases hzi
    exact hs i T H Kt Kf hi s gT (fun e H4 s4 => qq.yes _ _ s4 (by unfold ysF; rw [range_get hi]; exact if_pos e)) (fun e H4 s4 => qq.no _ s4 (by unfold ysF; rw [range_get hi]; exact if_neg (by rw [e]; simp))))
    (fun H s h => hd H s (by have := ysF_all f q (List.range n); rw [List.length_range] at this; rw [h, lx, this]))
theorem lcZm {xs zs : List V} {n : Nat} (X Z f : Nat → V) (lx : xs.length = n) (lz : zs.length = n) (hX : ∀ i, i < n → xs[i]? = some (X i)) (hZ : ∀ i, i < n → zs[i]? = some (Z i)) (hD : H1 D = none) (hx : SqL K H1 a xs) (hz : SqL K H1 b zs) (hn : n ≤ 100000)
    (hs : ∀ (i : Nat) (T : Addr) (H : Hp) (Kt : V → Hp → Prop) (Kf : Hp → Prop), i < n → Same H1 H → H T = some (.tup [X i, Z i]) → (∀ H4, Same H H4 → Kt (f i) H4) → LcT g tt te vs σ (.ref T) H Kt Kf)
    (hd : ∀ H, Same H1 H → H D = some (.lst ((List.range n).map f)) → Qd H) : LcG (Itz K a b) g tt te vs σ H1 D Qd :=
  lcZf X Z f (fun _ => true) lx lz hX hZ hD hx hz hn (fun i T H Kt Kf hi s gT h _ => hs i T H Kt Kf hi s gT (h rfl)) (fun H s h => hd H s (by rw [h, List.filter_eq_self.mpr fun _ _ => rfl]))
/-- over a list, by places -/
theorem lcLxf {xs : List V} (f : Nat → V) (q : Nat → Bool) (hD : H1 D = none) (hx : SqL K H1 a xs) (hn : xs.length ≤ 100000)
    (hs : ∀ (i : Nat) (x : V) (H : Hp) (Kt : V → Hp → Prop) (Kf : Hp → Prop), xs[i]? = some x → Same H1 H → (q i = true → ∀ H4, Same H H4 → Kt (f i) H4) → (q i = false → ∀ H4, Same H H4 → Kf H4) → LcT g tt te vs σ x H Kt Kf)
    (hd : ∀ H, Same H1 H → H D = some (.lst (((List.range xs.length).filter q).map f)) → Qd H) : LcG (Itl K a) g tt te vs σ H1 D Qd :=
  lcLq (ysF f q (List.range xs.length)) hD hx hn (fun i x H Kt Kf hxi s qq => by
    have hi := (List.getElem?_eq_some_iff.mp hxi).1
    exact hs i x H Kt Kf hxi s (fun e H4 s4 => qq.yes _ _ s4 (by unfold ysF; rw [range_get hi]; exact if_pos e)) (fun e H4 s4 => qq.no _ s4 (by unfold ysF; rw [range_get hi]; exact if_neg (by rw [e]; simp))))
    (fun H s h => hd H s (by have := ysF_all f q (List.range xs.length); rw [List.length_range] at this; rw [h, this]))
theorem lcLx {xs : List V} (f : Nat → V) (hD : H1 D = none) (hx : SqL K H1 a xs) (hn : xs.length ≤ 100000)
    (hs : ∀ (i : Nat) (x : V) (H : Hp) (Kt : V → Hp → Prop) (Kf : Hp → Prop), xs[i]? = some x → Same H1 H → (∀ H4, Same H H4 → Kt (f i) H4) → LcT g tt te vs σ x H Kt Kf)
    (hd : ∀ H, Same H1 H → H D = some (.lst ((List.range xs.length).map f)) → Qd H) : LcG (Itl K a) g tt te vs σ H1 D Qd :=
  lcLxf f (fun _ => true) hD hx hn (fun i x H Kt Kf hx s h _ => hs i x H Kt Kf hx s (h rfl)) (fun H s h => hd H s (by rw [h, List.filter_eq_self.mpr fun _ _ => rfl]))
end
theorem all_true (n : Nat) : ((List.range n).map fun _ => true).all id = true := by simp
theorem bls (n : Nat) (f : Nat → Bool) : (List.range n).map (fun i => V.bl (f i)) = ((List.range n).map f).map V.bl := by rw [List.map_map]; rfl
/-- isinstance(x, (T1, T2)) of plain things -/
def rIs2 (T1 T2 : String) (ans : V → String → Bool) : List V → Hp → VK → Prop := fun xs H Q => ∃ (x : V) (tp : Addr) (t : String), xs = [x, .ref tp] ∧ Ty7 H x t ∧ H tp = some (.tup [.ty T1, .ty T2]) ∧ Q (.bl (ans x t)) H
theorem call_isTy2 {X : Cx} (T1 T2 : String) (a1 a2 : V → String → Bool) (h1 : ∀ H x t, Ty7 H x t → kitB t T1 = some (a1 x t)) (h2 : ∀ H x t, Ty7 H x t → kitB t T2 = some (a2 x t)) : CallR X (.builtin "isinstance") (rIs2 T1 T2 fun x t => a1 x t || a2 x t) :=
  callR_imp call_isiT fun _ H Q ⟨x, tp, t, e, ht, hp, q⟩ => ⟨x, tp, [.ty T1, .ty T2], _, [.type T1, .type T2], _, e, hp, .cons (.ty _) (.cons (.ty _) .nil), ht.tx, kitAny_cons (b := a1 x t) (kit_ty (h1 H x t ht)) (fun e1 => kitAny_cons (b := a2 x t) (kit_ty (h2 H x t ht)) (fun e2 => by simp only [e1, e2]; rfl) (fun e2 => by simp only [e1, e2]; rfl)) (fun e1 => by simp only [e1]; rfl), q⟩
theorem is_strtup {X : Cx} : CallR X (.builtin "isinstance") (rIs2 "str" "tuple" fun _ t => decide (t = "str") || decide (t = "tuple")) := call_isTy2 _ _ (fun _ t => decide (t = "str")) (fun _ t => decide (t = "tuple")) (fun _ _ _ h => h.ks) (fun _ _ _ h => h.kt)
/-- a list or a tuple -/
def SqE (K : PySem.W.Frag) (H : Hp) (a : Addr) (xs : List V) : Prop := SqL K H a xs ∨ SqT K H a xs
theorem SqE.same {K : PySem.W.Frag} {H H' : Hp} {a : Addr} {xs : List V} (h : SqE K H a xs) (s : Same H H') : SqE K H' a xs := h.imp (fun h => s.seq h) (fun h => Same.seqT s h)
theorem But.seqT {K : PySem.W.Frag} {H H' : Hp} {a b : Addr} {xs : List V} (e : But a H H') (n : b ≠ a) (h : SqT K H b xs) : SqT K H' b xs := by
  rcases h with (h | ⟨o, h⟩) | h
  · exact .inl (.inl (e _ _ n h))
  · exact .inl (.inr ⟨o, e _ _ n h⟩)
  · exact .inr h
theorem SqE.but {K : PySem.W.Frag} {H H' : Hp} {a b : Addr} {xs : List V} (h : SqE K H b xs) (e : But a H H') (n : b ≠ a) : SqE K H' b xs := h.imp (fun h => e.seq n h) (fun h => e.seqT n h)
theorem ixE {K : PySem.W.Frag} {H : Hp} {a : Addr} {xs : List V} {i : Int} {v : V} {Q : VK} (h : SqE K H a xs) (e : atI xs i = some v) (q : Q v H) : rIx K (.ref a) (.int i) H Q := by
  rcases h with h | h
  · exact .inl ⟨_, _, _, _, rfl, rfl, h, e, q⟩
  · exact .inr (.inl ⟨_, _, _, _, rfl, rfl, h, e, q⟩)
theorem atI_add {xs : List V} {f i : Nat} {v : V} (h : xs[f + i]? = some v) : atI xs ((f : Int) + (i : Int)) = some v := by
  rw [← Int.natCast_add]; exact atI_nat h
theorem pick_list {α : Type} {P : V → α → Prop} : ∀ (us : List V), (∀ (i : Nat) (v : V), us[i]? = some v → ∃ t, P v t) → ∃ ts : List α, us.length = ts.length ∧ ∀ (i : Nat) (v : V) (t : α), us[i]? = some v → ts[i]? = some t → P v t
  | [], _ => ⟨[], rfl, fun i v t h => by simp at h⟩
  | u :: us, h => by
    obtain ⟨t, ht⟩ := h 0 u rfl
    obtain ⟨ts, hl, hts⟩ := pick_list us fun i v hv => h (i + 1) v hv
    refine ⟨t :: ts, by rw [List.length_cons, List.length_cons, hl], fun i v t' hv ht' => ?_⟩
    cases i with
    | zero => cases hv; cases ht'; exact ht
    | succ i => exact hts i v t' hv ht'
end My

open PySem L2 My
/-! ### short steps -/
local macro_rules | `(tactic| tm_at "hp") => `(tactic| first
  | with_reducible assumption
  | exact upd_same
  | (with_reducible refine upd_keep ?hpn ?hpr; (case hpn => with_reducible assumption); (case hpr => tm_at "hp"))
  | (refine Eq.trans (upd_ne ?hpn) ?hpr; (case hpn => tm_at "ne"); (case hpr => tm_at "hp"))
  | (refine' Same.app ?hps ?hpr; (case hps => with_reducible assumption); (case hpr => tm_at "hp"))
  | (refine' Dr.app ?hps ?hpn ?hpr; (case hps => with_reducible assumption); (case hpr => tm_at "hp"); (case hpn => tm_at "ne"))
  | (refine' But.app ?hps ?hpn ?hpr; (case hps => with_reducible assumption); (case hpr => tm_at "hp"); (case hpn => tm_at "ne")))
local macro_rules | `(tactic| tm_at "ne") => `(tactic| first
  | with_reducible assumption
  | (with_reducible refine Ne.symm ?nes; (case nes => with_reducible assumption))
  | (refine' ne_of_none ?nea ?neb; (case neb => with_reducible assumption); (case nea => tm_at "hp"))
  | (refine' Src.ne ?nea ?neb; (case neb => with_reducible assumption); (case nea => tm_at "sr"))
  | (refine' Ne.symm (Src.ne ?nea ?neb); (case neb => with_reducible assumption); (case nea => tm_at "sr"))
  | (refine' Ne.symm (ne_of_none ?nea ?neb); (case neb => with_reducible assumption); (case nea => tm_at "hp")))
/-- a list, a tuple that stands -/
local macro_rules | `(tactic| tm_at "sql") => `(tactic| first
  | with_reducible assumption
  | (refine sqL ?sqa; (case sqa => tm_at "hp"))
  | (refine' Same.seq ?sqs ?sqa; (case sqs => with_reducible assumption); (case sqa => tm_at "sql"))
  | (refine' Dr.seq ?sqs ?sqn ?sqa; (case sqs => with_reducible assumption); (case sqa => tm_at "sql"); (case sqn => tm_at "ne"))
  | (refine' But.seq ?sqs ?sqn ?sqa; (case sqs => with_reducible assumption); (case sqa => tm_at "sql"); (case sqn => tm_at "ne")))
/-- all but a stands; all stands -/
local macro_rules | `(tactic| tm_at "bt") => `(tactic| first
  | with_reducible assumption
  | with_reducible exact But.refl
  | (with_reducible refine But.upd ?btx; (case btx => tm_at "bt"))
  | (with_reducible refine But.new ?btx ?bty; (case bty => with_reducible assumption); (case btx => tm_at "bt"))
  | (refine' But.trans ?btx ?bty; (case bty => with_reducible assumption); (case btx => tm_at "bt"))
  | (refine' But.trans ?btx (Same.but ?bty); (case bty => with_reducible assumption); (case btx => tm_at "bt")))
local macro_rules | `(tactic| tm_at "sm") => `(tactic| first
  | with_reducible assumption
  | with_reducible exact Same.refl _
  | (with_reducible refine Same.new ?btx ?bty; (case bty => with_reducible assumption); (case btx => tm_at "sm"))
  | (with_reducible refine Same.mut ?btx ?bty; (case bty => with_reducible assumption); (case btx => tm_at "sm"))
  | (refine' Same.mut' ?btx ?bty ?btn; (case bty => with_reducible assumption); (case btx => tm_at "sm"); (case btn => tm_at "fr"))
  | (refine' Same.trans ?btx ?bty; (case bty => with_reducible assumption); (case btx => tm_at "sm")))
/-- the source stands; draws from there to here -/
local macro_rules | `(tactic| tm_at "sr") => `(tactic| first
  | with_reducible assumption
  | (refine' Dr.s ?srd; (case srd => with_reducible assumption))
  | (refine' Src.same ?srh ?srd; (case srd => with_reducible assumption); (case srh => tm_at "sr"))
  | (refine' Src.but ?srh ?srd ?srn; (case srd => with_reducible assumption); (case srh => tm_at "sr"); (case srn => tm_at "ne")))
local macro_rules | `(tactic| tm_at "dr") => `(tactic| first
  | with_reducible assumption
  | (refine' Dr.trans ?drx ?dry; (case dry => with_reducible assumption); (case drx => tm_at "dr"))
  | (refine' Dr.same ?drx ?dry; (case dry => with_reducible assumption); (case drx => tm_at "dr"))
  | (refine' Dr.mut ?drx ?dry ?drn ?drm; (case dry => with_reducible assumption); (case drx => tm_at "dr"); (case drn => tm_at "fr"); (case drm => tm_at "ne"))
  | (refine' Dr.of ?drx ?dry; (case drx => tm_at "sr"); (case dry => tm_at "sm"))
  | (refine Dr.refl ?drx; (case drx => tm_at "sr")))
/-- nothing stood there -/
local macro_rules | `(tactic| tm_at "fr") => `(tactic| first
  | with_reducible assumption
  | (refine' Same.free ?frs ?frh; (case frh => with_reducible assumption); (case frs => tm_at "sm"))
  | (refine' Dr.free ?frs ?frh ?frn; (case frh => with_reducible assumption); (case frs => tm_at "dr"); (case frn => tm_at "ne")))
/-- an int's condition -/
local macro_rules | `(tactic| tm_at "ic") => `(tactic| first
  | assumption
  | omega
  | exact Nat.le_of_ble_eq_true rfl
  | exact ⟨by decide, by decide +kernel⟩
  | exact Or.inr ⟨by omega, by omega⟩
  | exact Or.inl ⟨by omega, by omega⟩
  | exact Or.inr ⟨by decide, by decide⟩
  | exact ⟨by decide, by decide, by decide⟩
  | exact wide_div (b := 64) (by omega) (by omega) (by decide) (by decide)
  | decide
  | tm_at "sr")
/-- a plain thing's kind -/
local macro_rules | `(tactic| tm_at "t7") => `(tactic| first
  | with_reducible assumption
  | with_reducible exact Ty7.int _
  | with_reducible exact Ty7.bl _
  | with_reducible exact Ty7.non
  | with_reducible exact Ty7.str _
  | (refine' Ty7.lst ?t7h; (case t7h => tm_at "hp"))
  | (refine' Ty7.tup ?t7h; (case t7h => tm_at "hp")))
/-- one step of a reading -/
local macro_rules | `(tactic| tm_at "rd") => `(tactic| first
  | refine ⟨_, rfl, ?_⟩
  | refine ⟨_, _, rfl, rfl, ?_⟩
  | (refine And.intro ?rdc ?_; (case rdc => (first | tm_at "ic" | (dsimp only; tm_at "ic"))))
  | refine ⟨_, _, rfl, ?_⟩
  | refine ⟨rfl, ?_⟩
  | (refine' ⟨_, _, rfl, ?rd7, ?_⟩; (case rd7 => tm_at "t7"))
  | (refine' ⟨_, _, rfl, Or.inl ⟨_, ?rdl, rfl⟩, ?_⟩; (case rdl => tm_at "sql"))
  | refine Or.inl ⟨_, rfl, ?_⟩
  | refine Or.inr ⟨_, rfl, ?_⟩)
local macro_rules | `(tactic| tm_at "rds") => `(tactic| repeat (tm_at "rd"))
/-- a tuple that stands -/
local macro_rules | `(tactic| tm_at "sqt") => `(tactic| first
  | with_reducible assumption
  | (refine sqT ?sqa; (case sqa => tm_at "hp"))
  | (refine' Same.seqT ?sqs ?sqa; (case sqs => with_reducible assumption); (case sqa => tm_at "sqt"))
  | (refine' Dr.seqT ?sqs ?sqn ?sqa; (case sqs => with_reducible assumption); (case sqa => tm_at "sqt"); (case sqn => tm_at "ne")))
/-- more steps: tests that are plain, items by a plain index, the length of a tuple -/
local macro_rules | `(tactic| tm_at "rz") => `(tactic| first
  | (refine' And.intro (Or.inl (And.intro rfl (Exists.intro _ ?rzt))) ?_; (case rzt => tm_at "sql"))
  | tm_at "rd"
  | (refine' ⟨_, _, rfl, Or.inr ⟨_, ?rdl, rfl⟩, ?_⟩; (case rdl => tm_at "sqt"))
  | (refine' ⟨_, _, _, _, rfl, rfl, ?rzl, ?rzi, ?_⟩; (case rzl => (first | tm_at "sql" | tm_at "sqt")); (case rzi => exact rfl))
  | (refine iteF' ?rzb ?_; (case rzb => (first | with_reducible rfl | rfl | decide)))
  | (refine iteT' ?rzb ?_; (case rzb => (first | with_reducible rfl | rfl | decide))))
local macro_rules | `(tactic| tm_at "rzs") => `(tactic| repeat (tm_at "rz"))
/-- .. up to an if that has something behind it -/
local macro_rules | `(tactic| tm_at "rzi") => `(tactic| repeat ((try dsimp only [gName]); (fail_if_success (with_reducible refine isIf ?_)); tm_at "rz"))
/-! ### totals dealt by caps and weights: plain mathematics -/
namespace My
open PySem L2
/-- the sum of f over some places -/
def S (f : Nat → Int) (R : List Nat) : Int := (R.map f).sum
theorem S_nil (f : Nat → Int) : S f [] = 0 := rfl
theorem S_cons (f : Nat → Int) (i : Nat) (R : List Nat) : S f (i :: R) = f i + S f R := by unfold S; rw [List.map_cons, List.sum_cons]
theorem S_append (f : Nat → Int) (R T : List Nat) : S f (R ++ T) = S f R + S f T := by unfold S; rw [List.map_append, List.sum_append]
theorem S_nonneg {f : Nat → Int} : ∀ {R : List Nat}, (∀ i ∈ R, 0 ≤ f i) → 0 ≤ S f R
  | [], _ => Int.le_refl 0
  | i :: R, h => by
    rw [S_cons]
    have h1 := h i (List.mem_cons_self ..)
    have h2 := S_nonneg (R := R) fun j hj => h j (List.mem_cons_of_mem _ hj)
    omega
theorem S_le {f g : Nat → Int} : ∀ {R : List Nat}, (∀ i ∈ R, f i ≤ g i) → S f R ≤ S g R
  | [], _ => Int.le_refl 0
  | i :: R, h => by
    rw [S_cons, S_cons]
    have h1 := h i (List.mem_cons_self ..)
    have h2 := S_le (R := R) fun j hj => h j (List.mem_cons_of_mem _ hj)
    omega
theorem S_lt {f g : Nat → Int} : ∀ {R : List Nat}, (∀ i ∈ R, f i < g i) → R ≠ [] → S f R < S g R
  | [], _, h => absurd rfl h
  | i :: R, h, _ => by
    rw [S_cons, S_cons]
    have h1 := h i (List.mem_cons_self ..)
    have h2 := S_le (R := R) fun j hj => Int.le_of_lt (h j (List.mem_cons_of_mem _ hj))
    omega
theorem S_congr {f g : Nat → Int} : ∀ {R : List Nat}, (∀ i ∈ R, f i = g i) → S f R = S g R
  | [], _ => rfl
  | i :: R, h => by
    rw [S_cons, S_cons, h i (List.mem_cons_self ..), S_congr (R := R) fun j hj => h j (List.mem_cons_of_mem _ hj)]
theorem S_mul (c : Int) (f : Nat → Int) : ∀ R : List Nat, S (fun i => c * f i) R = c * S f R
  | [] => (Int.mul_zero c).symm
  | i :: R => by rw [S_cons, S_cons, S_mul c f R, Int.mul_add]
theorem S_mul_r (c : Int) (f : Nat → Int) : ∀ R : List Nat, S (fun i => f i * c) R = S f R * c
  | [] => (Int.zero_mul c).symm
  | i :: R => by rw [S_cons, S_cons, S_mul_r c f R, Int.add_mul]
theorem S_split (f : Nat → Int) (p : Nat → Bool) : ∀ R : List Nat, S f R = S f (R.filter p) + S f (R.filter fun i => !p i)
  | [] => rfl
  | i :: R => by
    rw [S_cons, S_split f p R, List.filter_cons, List.filter_cons]
    cases h : p i with
    | true => simp only [Bool.not_true, if_true, Bool.false_eq_true, if_false]; rw [S_cons]; omega
    | false => simp only [Bool.not_false, if_true, Bool.false_eq_true, if_false]; rw [S_cons]; omega
theorem S_bound {f : Nat → Int} {c : Int} : ∀ {R : List Nat}, (∀ i ∈ R, f i ≤ c) → S f R ≤ c * R.length
  | [], _ => by simp [S_nil]
  | i :: R, h => by
    rw [S_cons, List.length_cons]
    have h1 := h i (List.mem_cons_self ..)
    have h2 := S_bound (R := R) fun j hj => h j (List.mem_cons_of_mem _ hj)
    have e : c * ((R.length + 1 : Nat) : Int) = c * R.length + c := by rw [Int.natCast_add, Int.mul_add]; simp
    omega
abbrev natsV (ch : List Nat) : List V := ch.map fun i : Nat => V.int (i : Int)
def wAt (ws : List Int) (i : Nat) : Int := ws.getD i 0
/-! #### the level -/
/-- what the removed ones keep: cap ≤ level times weight, while the level T / W only rises -/
theorem rise {T W C V : Int} (hW : 0 < W) (hC : C * W ≤ T * V) : T * (W - V) ≤ (T - C) * W := by
  rw [Int.mul_sub, Int.sub_mul]; omega
theorem keep_cap {c w T W T' W' : Int} (hW : 0 < W) (hw : 0 ≤ w) (hW' : 0 ≤ W') (h : c * W ≤ T * w) (hr : T * W' ≤ T' * W) : c * W' ≤ T' * w := by
  have h1 : c * W * W' ≤ T * w * W' := Int.mul_le_mul_of_nonneg_right h hW'
  have h2 : T * W' * w ≤ T' * W * w := Int.mul_le_mul_of_nonneg_right hr hw
  have e1 : c * W * W' = c * W' * W := by rw [Int.mul_assoc, Int.mul_comm W W', ← Int.mul_assoc]
  have e2 : T * w * W' = T * W' * w := by rw [Int.mul_assoc, Int.mul_comm w W', ← Int.mul_assoc]
  have e3 : T' * W * w = T' * w * W := by rw [Int.mul_assoc, Int.mul_comm W w, ← Int.mul_assoc]
  exact Int.le_of_mul_le_mul_right (by rw [← e1, ← e3]; omega) hW
/-- behind the rest: what is weighed so far -/
def pre (w : Nat → Int) (p : Nat → Bool) : Nat → Int
  | 0 => 0
  | i + 1 => pre w p i + if p i then w i else 0
/-- what one gets by running sums -/
def part (t b beh w : Int) : Int := t * (beh + w) / b - t * beh / b
/-- the pairs that running tells -/
def runD (t b : Int) (w : Nat → Int) : List Nat → Int → List (Nat × Int)
  | [], _ => []
  | i :: r, beh => (i, part t b beh (w i)) :: runD t b w r (beh + w i)
theorem runD_append (t b : Int) (w : Nat → Int) (i : Nat) : ∀ (l : List Nat) (beh : Int), runD t b w (l ++ [i]) beh = runD t b w l beh ++ [(i, part t b (beh + S w l) (w i))]
  | [], beh => by simp [runD, S_nil]
  | j :: l, beh => by
    rw [List.cons_append]
    simp only [runD]
    rw [runD_append t b w i l (beh + w j), S_cons, Int.add_assoc, List.cons_append]
theorem runD_fst (t b : Int) (w : Nat → Int) : ∀ (l : List Nat) (beh : Int), (runD t b w l beh).map (·.1) = l
  | [], _ => rfl
  | i :: l, beh => by simp only [runD, List.map_cons]; rw [runD_fst t b w l]
theorem pre_eq (w : Nat → Int) (p : Nat → Bool) : ∀ n, pre w p n = S w ((List.range n).filter p)
  | 0 => rfl
  | n + 1 => by
    rw [List.range_succ, List.filter_append, S_append, ← pre_eq w p n]
    simp only [pre, List.filter_cons, List.filter_nil]
    cases p n <;> simp [S_cons, S_nil]
theorem runD_range (t b : Int) (w : Nat → Int) (p : Nat → Bool) : ∀ n, ∀ q ∈ runD t b w ((List.range n).filter p) 0, p q.1 = true ∧ q.1 < n ∧ q.2 = part t b (pre w p q.1) (w q.1)
  | 0, q, h => by simp [runD] at h
  | n + 1, q, h => by
    rw [List.range_succ, List.filter_append] at h
    cases hp : p n with
    | false =>
      rw [List.filter_cons, hp] at h
      simp only [Bool.false_eq_true, if_false, List.filter_nil, List.append_nil] at h
      obtain ⟨h1, h2, h3⟩ := runD_range t b w p n q h
      exact ⟨h1, by omega, h3⟩
    | true =>
      rw [List.filter_cons, hp] at h
      simp only [if_true, List.filter_nil] at h
      rw [runD_append] at h
      rcases List.mem_append.mp h with h | h
      · obtain ⟨h1, h2, h3⟩ := runD_range t b w p n q h
        exact ⟨h1, by omega, h3⟩
      · simp only [List.mem_singleton] at h
        subst h
        exact ⟨hp, by simp, by simp [pre_eq]⟩
/-- found, set by pairs -/
def putAll (f : List Int) (ps : List (Nat × Int)) : List Int := ps.foldl (fun f q => f.set q.1 q.2) f
theorem putAll_len : ∀ (ps : List (Nat × Int)) (f : List Int), (putAll f ps).length = f.length
  | [], _ => rfl
  | q :: ps, f => by
    show (putAll (f.set q.1 q.2) ps).length = _
    rw [putAll_len ps, List.length_set]
theorem putAll_out {i : Nat} : ∀ (ps : List (Nat × Int)) (f : List Int), i ∉ ps.map (·.1) → (putAll f ps)[i]? = f[i]?
  | [], _, _ => rfl
  | q :: ps, f, h => by
    show (putAll (f.set q.1 q.2) ps)[i]? = _
    rw [List.map_cons, List.mem_cons, not_or] at h
    rw [putAll_out ps _ h.2, List.getElem?_set_ne (fun e => h.1 e.symm)]
theorem putAll_in {g : Nat → Int} {i : Nat} : ∀ (ps : List (Nat × Int)) (f : List Int), (∀ q ∈ ps, q.2 = g q.1) → i ∈ ps.map (·.1) → i < f.length → (putAll f ps)[i]? = some (g i)
  | [], _, _, h, _ => by simp at h
  | q :: ps, f, hg, h, hl => by
    show (putAll (f.set q.1 q.2) ps)[i]? = _
    by_cases hm : i ∈ ps.map (·.1)
    · exact putAll_in ps _ (fun r hr => hg r (List.mem_cons_of_mem _ hr)) hm (by rw [List.length_set]; exact hl)
    · rw [putAll_out ps _ hm]
      rw [List.map_cons, List.mem_cons] at h
      rcases h with e | h
      · subst e
        rw [List.getElem?_set_self hl, hg q (List.mem_cons_self ..)]
      · exact absurd h hm
/-! #### the spec, and the loop -/
def capN (cap : Nat → Option Int) (i : Nat) : Int := (cap i).getD 0
/-- who has weight -/
def wtd (n : Nat) (w : Nat → Int) : List Nat := (List.range n).filter fun i => decide (0 < w i)
/-- the cap is no more than level times weight -/
def heldB (t b : Int) (w : Nat → Int) (cap : Nat → Option Int) (i : Nat) : Bool := match cap i with
  | some c => decide (c * b ≤ t * w i)
  | none => false
/-- who is dealt to by the level -/
def restB (t b : Int) (w : Nat → Int) (cap : Nat → Option Int) (i : Nat) : Bool := decide (0 < w i) && !heldB t b w cap i
def less (c : Option Int) (b x : Int) : Int := match c with
  | some c => min (c * b) x
  | none => x
structure Dealt (n : Nat) (w : Nat → Int) (cap : Nat → Option Int) (total : Int) (lv : Option (Int × Int)) (fs : List Int) : Prop where
  len : fs.length = n
  zero : ∀ i, i < n → w i ≤ 0 → fs[i]? = some 0
  non : lv = none → (∀ i, i < n → 0 < w i → ∃ c, cap i = some c ∧ fs[i]? = some c) ∧ S (capN cap) (wtd n w) ≤ total
  lev : ∀ t b, lv = some (t, b) → 0 ≤ t ∧ 0 < b ∧ Int.gcd t b = 1 ∧ ¬ ((∀ i, i < n → 0 < w i → (cap i).isSome = true) ∧ S (capN cap) (wtd n w) ≤ total) ∧
    S (fun i => less (cap i) b (t * w i)) (wtd n w) = total * b ∧
    ∀ i, i < n → 0 < w i → fs[i]? = some (if heldB t b w cap i then capN cap i else part t b (pre w (restB t b w cap) i) (w i))
/-- between two turns: who is left (p), what is left (T) -/
structure DI (n : Nat) (w : Nat → Int) (cap : Nat → Option Int) (total : Int) (p : Nat → Bool) (T : Int) (f : List Int) : Prop where
  len : f.length = n
  pw : ∀ i, i < n → p i = true → 0 < w i
  tn : 0 ≤ T
  out : ∀ i, i < n → 0 < w i → p i = false → ∃ c, cap i = some c ∧ f[i]? = some c ∧ c * S w ((List.range n).filter p) ≤ T * w i
  yet : ∀ i, i < n → (p i = true ∨ w i ≤ 0) → f[i]? = some 0
  sum : T + S (capN cap) ((List.range n).filter fun i => decide (0 < w i) && !p i) = total
section
variable {n : Nat} {w : Nat → Int} {cap : Nat → Option Int} {total T : Int} {p : Nat → Bool} {f : List Int}
theorem filter_congr' {q r : Nat → Bool} {l : List Nat} (h : ∀ i ∈ l, q i = r i) : l.filter q = l.filter r := List.filter_congr h
theorem DI.start (h0 : 0 ≤ total) : DI n w cap total (fun i => decide (0 < w i)) total (List.replicate n 0) := by
  refine ⟨List.length_replicate, fun i _ h => of_decide_eq_true h, h0, fun i _ h1 h2 => absurd h1 (of_decide_eq_false h2), fun i hi _ => by rw [List.getElem?_replicate, if_pos hi], ?_⟩
  have e : ((List.range n).filter fun i => decide (0 < w i) && !decide (0 < w i)) = [] := by
    rw [List.filter_eq_nil_iff]
    intro i _
    cases decide (0 < w i) <;> simp
  rw [e, S_nil]; omega
/-- nobody is left -/
theorem DI.fin0 (d : DI n w cap total p T f) (he : (List.range n).filter p = []) : Dealt n w cap total none f := by
  have hp : ∀ i, i < n → p i = false := fun i hi => by
    have := List.filter_eq_nil_iff.mp he i (List.mem_range.mpr hi)
    simpa using this
  refine ⟨d.len, fun i hi h => d.yet i hi (.inr h), fun _ => ⟨fun i hi h => ?_, ?_⟩, fun t b h => by cases h⟩
  · obtain ⟨c, h1, h2, _⟩ := d.out i hi h (hp i hi)
    exact ⟨c, h1, h2⟩
  · have e : wtd n w = ((List.range n).filter fun i => decide (0 < w i) && !p i) := filter_congr' fun i hi => by
      rw [hp i (List.mem_range.mp hi)]; simp
    rw [e]
    have := d.sum
    have := d.tn
    omega
/-- who has no more than level times weight as a cap -/
def fullB (T W : Int) (w : Nat → Int) (cap : Nat → Option Int) (i : Nat) : Bool := heldB T W w cap i
theorem S_pos {R : List Nat} (h : ∀ i ∈ R, 0 < w i) (hne : R ≠ []) : 0 < S w R := by
  have := S_lt (f := fun _ => 0) (g := w) h hne
  have e : S (fun _ => 0) R = 0 := by
    have : ∀ R : List Nat, S (fun _ => 0) R = 0 := fun R => by
      induction R with
      | nil => rfl
      | cons i R ih => rw [S_cons, ih]; rfl
    exact this R
  omega
theorem heldB_some {t b : Int} {i : Nat} (h : heldB t b w cap i = true) : ∃ c, cap i = some c ∧ c * b ≤ t * w i := by
  unfold heldB at h
  cases e : cap i with
  | none => rw [e] at h; cases h
  | some c => rw [e] at h; exact ⟨c, rfl, of_decide_eq_true h⟩
theorem heldB_iff {t b c : Int} {i : Nat} (e : cap i = some c) : heldB t b w cap i = decide (c * b ≤ t * w i) := by
  unfold heldB
  rw [e]
theorem filter_and (q r : Nat → Bool) (l : List Nat) : (l.filter q).filter r = l.filter fun i => q i && r i := by
  rw [List.filter_filter]
  exact List.filter_congr fun i _ => by rw [Bool.and_comm]
/-- one turn -/
theorem DI.turn (d : DI n w cap total p T f) (W : Int) (hW : W = S w ((List.range n).filter p)) (hne : (List.range n).filter p ≠ []) (full : List Nat) (hfull : full = ((List.range n).filter p).filter (heldB T W w cap)) :
    DI n w cap total (fun i => p i && !heldB T W w cap i) (T - S (capN cap) full) (putAll f (full.map fun i => (i, capN cap i))) := by
  have hpos : ∀ i ∈ (List.range n).filter p, 0 < w i := fun i hi => by
    obtain ⟨h1, h2⟩ := List.mem_filter.mp hi
    exact d.pw i (List.mem_range.mp h1) h2
  have W0 : 0 < W := by rw [hW]; exact S_pos hpos hne
  have mfull : ∀ i, i ∈ full ↔ (i < n ∧ p i = true) ∧ heldB T W w cap i = true := fun i => by
    rw [hfull, List.mem_filter, List.mem_filter, List.mem_range]
  -- C * W ≤ T * V
  have hC : S (capN cap) full * W ≤ T * S w full := by
    rw [← S_mul_r, ← S_mul]
    refine S_le fun i hi => ?_
    obtain ⟨c, e, h⟩ := heldB_some ((mfull i).mp hi).2
    show (cap i).getD 0 * W ≤ T * w i
    rw [e]; exact h
  have hsp : W = S w full + S w ((List.range n).filter fun i => p i && !heldB T W w cap i) := by
    have e := S_split w (heldB T W w cap) ((List.range n).filter p)
    rw [← hfull, filter_and, ← hW] at e
    exact e
  have V0 : S w full ≤ W := by
    have : 0 ≤ S w ((List.range n).filter fun i => p i && !heldB T W w cap i) := S_nonneg fun i hi => by
      obtain ⟨h1, h2⟩ := List.mem_filter.mp hi
      have := d.pw i (List.mem_range.mp h1) (Bool.and_eq_true_iff.mp h2).1
      omega
    omega
  have T0 : 0 ≤ T - S (capN cap) full := by
    have h1 : T * S w full ≤ T * W := Int.mul_le_mul_of_nonneg_left V0 d.tn
    have h2 : S (capN cap) full * W ≤ T * W := Int.le_trans hC h1
    have := Int.le_of_mul_le_mul_right h2 W0
    omega
  have hr := rise W0 hC
  have eW' : W - S w full = S w ((List.range n).filter fun i => p i && !heldB T W w cap i) := by omega
  rw [eW'] at hr
  have W'0 : 0 ≤ S w ((List.range n).filter fun i => p i && !heldB T W w cap i) := by omega
  have fst : (full.map fun i => (i, capN cap i)).map (·.1) = full := by rw [List.map_map]; exact List.map_id'' (fun _ => rfl) _
  refine ⟨by rw [putAll_len]; exact d.len, fun i hi h => d.pw i hi (Bool.and_eq_true_iff.mp h).1, T0, fun i hi hw hp' => ?_, fun i hi h => ?_, ?_⟩
  · cases hp : p i with
    | false =>
      obtain ⟨c, h1, h2, h3⟩ := d.out i hi hw hp
      refine ⟨c, h1, ?_, ?_⟩
      · rw [putAll_out _ _ (by rw [fst]; intro hm; have := ((mfull i).mp hm).1.2; rw [hp] at this; cases this)]
        exact h2
      · rw [← hW] at h3
        exact keep_cap W0 (Int.le_of_lt hw) W'0 h3 hr
    | true =>
      have hh : heldB T W w cap i = true := by rw [hp] at hp'; simpa using hp'
      obtain ⟨c, e, h⟩ := heldB_some hh
      refine ⟨c, e, ?_, keep_cap W0 (Int.le_of_lt hw) W'0 h hr⟩
      have := putAll_in (g := capN cap) (i := i) (full.map fun i => (i, capN cap i)) f (fun q hq => by
        obtain ⟨j, _, e⟩ := List.mem_map.mp hq
        rw [← e]) (by rw [fst]; exact (mfull i).mpr ⟨⟨hi, hp⟩, hh⟩) (by rw [d.len]; exact hi)
      rw [this]
      show some ((cap i).getD 0) = some c
      rw [e]; rfl
  · have hn : i ∉ full := fun hm => by
      obtain ⟨⟨_, h1⟩, h2⟩ := (mfull i).mp hm
      rcases h with h | h
      · rw [h1, h2] at h; cases h
      · have := d.pw i hi h1; omega
    rw [putAll_out _ _ (by rw [fst]; exact hn)]
    refine d.yet i hi ?_
    rcases h with h | h
    · exact .inl (Bool.and_eq_true_iff.mp h).1
    · exact .inr h
  · have e1 : S (capN cap) ((List.range n).filter fun i => decide (0 < w i) && !(p i && !heldB T W w cap i)) = S (capN cap) full + S (capN cap) ((List.range n).filter fun i => decide (0 < w i) && !p i) := by
      have e := S_split (capN cap) p ((List.range n).filter fun i => decide (0 < w i) && !(p i && !heldB T W w cap i))
      rw [filter_and, filter_and] at e
      rw [e]
      congr 1
      · congr 1
        rw [hfull, filter_and]
        refine filter_congr' fun i hi => ?_
        have := d.pw i (List.mem_range.mp hi)
        cases hp : p i with
        | false => simp
        | true =>
          rw [decide_eq_true (this hp)]
          cases heldB T W w cap i <;> rfl
      · congr 1
        refine filter_congr' fun i _ => ?_
        cases p i <;> simp
    rw [e1]
    have := d.sum
    omega
/-- nobody is held any more: the level -/
theorem DI.fin1 (d : DI n w cap total p T f) (W : Int) (hW : W = S w ((List.range n).filter p)) (hne : (List.range n).filter p ≠ []) (hfull : ((List.range n).filter p).filter (heldB T W w cap) = []) {t b g : Int}
    (eT : T = t * g) (eW : W = b * g) (hg : 0 < g) (hgcd : Int.gcd t b = 1) :
    Dealt n w cap total (some (t, b)) (putAll f (runD t b w ((List.range n).filter p) 0)) := by
  have hpos : ∀ i ∈ (List.range n).filter p, 0 < w i := fun i hi => by
    obtain ⟨h1, h2⟩ := List.mem_filter.mp hi
    exact d.pw i (List.mem_range.mp h1) h2
  have W0 : 0 < W := by rw [hW]; exact S_pos hpos hne
  have b0 : 0 < b := Int.pos_of_mul_pos_right (by rw [Int.mul_comm] at eW; rw [← eW]; exact W0) hg
  have t0 : 0 ≤ t := by
    by_cases h : 0 ≤ t
    · exact h
    · have : t * g < 0 := Int.mul_neg_of_neg_of_pos (by omega) hg
      have := d.tn
      omega
  have cmp : ∀ c i, (c * W ≤ T * w i ↔ c * b ≤ t * w i) := fun c i => by
    have e1 : c * W = c * b * g := by rw [eW, Int.mul_assoc]
    have e2 : T * w i = t * w i * g := by rw [eT, Int.mul_assoc, Int.mul_comm g, ← Int.mul_assoc]
    rw [e1, e2]
    exact ⟨fun h => Int.le_of_mul_le_mul_right h hg, fun h => Int.mul_le_mul_of_nonneg_right h (Int.le_of_lt hg)⟩
  have hheld : ∀ i, heldB t b w cap i = heldB T W w cap i := fun i => by
    unfold heldB
    cases cap i with
    | none => rfl
    | some c => exact decide_eq_decide.mpr (cmp c i).symm
  have hrest : ∀ i, i < n → restB t b w cap i = p i := fun i hi => by
    unfold restB
    rw [hheld]
    cases hp : p i with
    | true =>
      have hw := d.pw i hi hp
      have hm : i ∈ (List.range n).filter p := List.mem_filter.mpr ⟨List.mem_range.mpr hi, hp⟩
      have hh := List.filter_eq_nil_iff.mp hfull i hm
      rw [decide_eq_true hw]
      simpa using hh
    | false =>
      by_cases hw : 0 < w i
      · obtain ⟨c, e, _, h⟩ := d.out i hi hw hp
        rw [← hW] at h
        rw [heldB_iff e, decide_eq_true h]
        simp
      · rw [decide_eq_false hw]; rfl
  have epre : ∀ i, i ≤ n → pre w (restB t b w cap) i = pre w p i := by
    intro i hi
    rw [pre_eq, pre_eq]
    congr 1
    exact filter_congr' fun j hj => hrest j (by have := List.mem_range.mp hj; omega)
  have hrun := runD_range t b w p n
  have fst : (runD t b w ((List.range n).filter p) 0).map (·.1) = (List.range n).filter p := runD_fst ..
  have hin : ∀ i, i < n → p i = true → (putAll f (runD t b w ((List.range n).filter p) 0))[i]? = some (part t b (pre w p i) (w i)) := fun i hi hp =>
    putAll_in (g := fun i => part t b (pre w p i) (w i)) _ f (fun q hq => (hrun q hq).2.2) (by rw [fst]; exact List.mem_filter.mpr ⟨List.mem_range.mpr hi, hp⟩) (by rw [d.len]; exact hi)
  have hout : ∀ i, i < n → p i = false → (putAll f (runD t b w ((List.range n).filter p) 0))[i]? = f[i]? := fun i hi hp =>
    putAll_out _ f (by rw [fst]; intro hm; have := (List.mem_filter.mp hm).2; rw [hp] at this; cases this)
  -- those who have weight: the removed and the rest
  have hsplit : ∀ g : Nat → Int, S g (wtd n w) = S g ((List.range n).filter p) + S g ((List.range n).filter fun i => decide (0 < w i) && !p i) := fun g => by
    have e := S_split g p (wtd n w)
    unfold wtd at e
    rw [filter_and, filter_and] at e
    unfold wtd
    rw [e]
    congr 1
    congr 1
    refine filter_congr' fun i hi => ?_
    cases hp : p i with
    | false => simp
    | true => rw [decide_eq_true (d.pw i (List.mem_range.mp hi) hp)]; rfl
  have outs : ∀ i ∈ (List.range n).filter fun i => decide (0 < w i) && !p i, ∃ c, cap i = some c ∧ c * b ≤ t * w i := fun i hi => by
    obtain ⟨h1, h2⟩ := List.mem_filter.mp hi
    rw [Bool.and_eq_true] at h2
    obtain ⟨c, e, _, h⟩ := d.out i (List.mem_range.mp h1) (of_decide_eq_true h2.1) (by simpa using h2.2)
    rw [← hW] at h
    exact ⟨c, e, (cmp c i).mp h⟩
  have ins : ∀ i ∈ (List.range n).filter p, ∀ c, cap i = some c → t * w i < c * b := fun i hi c e => by
    have hh := List.filter_eq_nil_iff.mp hfull i hi
    rw [heldB_iff e] at hh
    have h3 : ¬ c * b ≤ t * w i := fun z => hh (decide_eq_true ((cmp c i).mpr z))
    omega
  refine ⟨by rw [putAll_len]; exact d.len, fun i hi h => ?_, (fun h => by cases h), fun t' b' h => ?_⟩
  · have hp : p i = false := by
      cases hp : p i with
      | false => rfl
      | true => have := d.pw i hi hp; omega
    rw [hout i hi hp]
    exact d.yet i hi (.inr h)
  · cases h
    refine ⟨t0, b0, hgcd, fun ⟨h1, h2⟩ => ?_, ?_, fun i hi hw => ?_⟩
    · -- all have caps, and these come to more than the total
      have hlt : S (fun i => t * w i) ((List.range n).filter p) < S (fun i => capN cap i * b) ((List.range n).filter p) := S_lt (fun i hi => by
        obtain ⟨ha, hb⟩ := List.mem_filter.mp hi
        have hs := h1 i (List.mem_range.mp ha) (hpos i hi)
        obtain ⟨c, e⟩ := Option.isSome_iff_exists.mp hs
        have := ins i hi c e
        show t * w i < (cap i).getD 0 * b
        rw [e]; exact this) hne
      rw [S_mul, S_mul_r, ← hW] at hlt
      have e1 : t * W = T * b := by rw [eT, eW, Int.mul_comm b g, ← Int.mul_assoc]
      rw [e1] at hlt
      have hlt2 := Int.lt_of_mul_lt_mul_right hlt (Int.le_of_lt b0)
      rw [hsplit] at h2
      have := d.sum
      omega
    · rw [hsplit]
      have e1 : S (fun i => less (cap i) b (t * w i)) ((List.range n).filter p) = t * W := by
        rw [hW, ← S_mul]
        refine S_congr fun i hi => ?_
        cases e : cap i with
        | none => simp [less]
        | some c =>
          have := ins i hi c e
          simp only [less]
          omega
      have e2 : S (fun i => less (cap i) b (t * w i)) ((List.range n).filter fun i => decide (0 < w i) && !p i) = S (capN cap) ((List.range n).filter fun i => decide (0 < w i) && !p i) * b := by
        rw [← S_mul_r]
        refine S_congr fun i hi => ?_
        obtain ⟨c, e, h⟩ := outs i hi
        unfold capN
        rw [e]
        simp only [less, Option.getD_some]
        omega
      rw [e1, e2]
      have e3 : t * W = T * b := by rw [eT, eW, Int.mul_comm b g, ← Int.mul_assoc]
      rw [e3, ← Int.add_mul, d.sum]
    · cases hp : p i with
      | true =>
        have hr := hrest i hi
        rw [hp] at hr
        unfold restB at hr
        rw [Bool.and_eq_true] at hr
        have hh : heldB t b w cap i = false := by simpa using hr.2
        rw [hin i hi hp, hh, epre i (Nat.le_of_lt hi)]
        rfl
      | false =>
        obtain ⟨c, e, h1, h2⟩ := d.out i hi hw hp
        rw [← hW] at h2
        rw [hout i hi hp, h1, heldB_iff e, decide_eq_true ((cmp c i).mp h2)]
        unfold capN
        rw [e]; rfl
end
/-! #### lists of places, levels as values -/
theorem lcYs_range (n : Nat) (p : Nat → Bool) (ys : Nat → Option V) (h : ∀ i, i < n → ys i = if p i = true then some (.int (i : Int)) else none) : lcYs n ys = natsV ((List.range n).filter p) := by
  have key : ∀ m, m ≤ n → lcYs m ys = natsV ((List.range m).filter p) := by
    intro m
    induction m with
    | zero => intro _; rfl
    | succ m ih =>
      intro hm
      rw [lcYs_succ, ih (by omega), h m (by omega), List.range_succ, List.filter_append]
      unfold natsV
      rw [List.map_append]
      congr 1
      cases hp : p m <;> simp [hp]
  exact key n (Nat.le_refl _)
theorem rep_zero (n : Nat) : (List.replicate n [V.int 0]).flatten = (List.replicate n (0 : Int)).map V.int := by
  induction n with
  | zero => rfl
  | succ n ih => rw [List.replicate_succ, List.flatten_cons, ih, List.replicate_succ, List.map_cons]; rfl
theorem inV_nats (i : Nat) : ∀ l : List Nat, inV (.int (i : Int)) (natsV l) = decide (i ∈ l)
  | [] => by simp [inV]
  | j :: l => by
    have ih := inV_nats i l
    unfold inV at ih ⊢
    simp only [natsV, List.map_cons, List.any_cons] at ih ⊢
    rw [ih]
    have e : eqV (V.int (j : Int)) (V.int (i : Int)) = decide (j = i) := by
      by_cases hj : j = i
      · subst hj; simp [eqV]
      · have : ¬ ((j : Int) = (i : Int)) := by omega
        simp [eqV, hj, this]
    rw [e]
    by_cases hj : j = i
    · subst hj; simp
    · have : ¬ i = j := fun z => hj z.symm
      simp [hj, this]
theorem flat_nats (l : List Nat) : (natsV l).all flatV = true := by
  rw [List.all_eq_true]
  intro x hx
  obtain ⟨i, _, rfl⟩ := List.mem_map.mp hx
  rfl
def natI (l : List Nat) : List Int := l.map fun i : Nat => (i : Int)
theorem natsV_eq (l : List Nat) : (natI l).map V.int = natsV l := by unfold natI; rw [List.map_map]; rfl
theorem natI_nil {l : List Nat} : natI l = [] ↔ l = [] := by unfold natI; exact List.map_eq_nil_iff
theorem nat_of_map {l : List Nat} {i : Nat} {y : V} (h : (natsV l)[i]? = some y) : ∃ c, l[i]? = some c ∧ y = V.int (c : Int) := by
  rw [List.getElem?_map] at h
  cases e : l[i]? with
  | none => rw [e] at h; cases h
  | some c => rw [e] at h; exact ⟨c, rfl, (Option.some.inj h).symm⟩
theorem int_at {ws : List Int} {c : Nat} (h : c < ws.length) : (ws.map V.int)[c]? = some (.int (wAt ws c)) := by
  rw [List.getElem?_map, List.getElem?_eq_getElem h]
  unfold wAt
  rw [List.getD_eq_getElem?_getD, List.getElem?_eq_getElem h]; rfl
def cAt (cs : List (Option Int)) (i : Nat) : Option Int := cs.getD i none
theorem opt_at {cs : List (Option Int)} {c : Nat} (h : c < cs.length) : (cs.map optI)[c]? = some (optI (cAt cs c)) := by
  rw [List.getElem?_map, List.getElem?_eq_getElem h]
  unfold cAt
  rw [List.getD_eq_getElem?_getD, List.getElem?_eq_getElem h]; rfl
theorem wAt_mem {ws : List Int} {i : Nat} (h : i < ws.length) : wAt ws i ∈ ws := by
  unfold wAt
  rw [List.getD_eq_getElem?_getD, List.getElem?_eq_getElem h]
  exact List.getElem_mem h
theorem cAt_mem {cs : List (Option Int)} {i : Nat} {z : Int} (h : cAt cs i = some z) : some z ∈ cs := by
  unfold cAt at h
  rw [List.getD_eq_getElem?_getD] at h
  cases e : cs[i]? with
  | none => rw [e] at h; cases h
  | some c => rw [e] at h; have : c = some z := h; rw [← this]; exact List.mem_of_getElem? e
/-- a level as it stands -/
def LvAt (H : Hp) (lv : Option (Int × Int)) (v : V) : Prop := match lv with
  | none => v = .non
  | some (t, b) => ∃ r, v = .ref r ∧ H r = some (.tup [.int t, .int b])
theorem filter_not_mem {p q : Nat → Bool} {l : List Nat} : ((l.filter p).filter fun i => !decide (i ∈ (l.filter p).filter q)) = l.filter fun i => p i && !q i := by
  rw [filter_and]
  refine List.filter_congr fun i hi => ?_
  cases hp : p i with
  | false => rfl
  | true =>
    have : decide (i ∈ (l.filter p).filter q) = q i := by
      cases hq : q i with
      | true => exact decide_eq_true (List.mem_filter.mpr ⟨List.mem_filter.mpr ⟨hi, hp⟩, hq⟩)
      | false => exact decide_eq_false fun hm => by have := (List.mem_filter.mp hm).2; rw [hq] at this; cases this
    rw [this]
theorem filter_lt {α : Type} {q : α → Bool} {l : List α} {j : α} (h : j ∈ l) (hq : q j = false) : (l.filter q).length < l.length := by
  have h1 := List.length_filter_le q l
  have h2 : (l.filter q).length ≠ l.length := fun e => by
    have := (List.length_filter_eq_length_iff.mp e) j h
    rw [hq] at this; cases this
  omega
theorem putAll_take {ps : List (Nat × Int)} {i : Nat} {q : Nat × Int} (h : ps[i]? = some q) (f : List Int) : putAll f (ps.take (i + 1)) = (putAll f (ps.take i)).set q.1 q.2 := by
  unfold putAll
  rw [List.take_add_one, h]
  show List.foldl _ f (ps.take i ++ [q]) = _
  rw [List.foldl_append]
  rfl
theorem ixN_nat {n i : Nat} (h : i < n) : ixN n (i : Int) = some i := by
  unfold ixN
  rw [if_pos (by omega), if_pos (by omega)]
  simp
theorem map_set {α β : Type} (f : α → β) (l : List α) (i : Nat) (x : α) : (l.map f).set i (f x) = (l.set i x).map f := (List.map_set).symm
end My

/-! ### texts as lists of signs: parts, words, the longest, the wish -/
namespace My
open PySem L2
abbrev sO (l : List Nat) : Str := ⟨l.toArray⟩
theorem sO_tl (x : Str) : sO x.cps.toList = x := by
  cases x
  simp [sO]
/-- cut at each c -/
def cut (c : Nat) : List Nat → List (List Nat)
  | [] => [[]]
  | d :: r => if d = c then [] :: cut c r else match cut c r with
    | p :: ps => (d :: p) :: ps
    | [] => [[d]]
theorem cut_ne (c : Nat) : ∀ l, ∃ p ps, cut c l = p :: ps
  | [] => ⟨[], [], rfl⟩
  | d :: r => by
    obtain ⟨p, ps, e⟩ := cut_ne c r
    unfold cut
    by_cases h : d = c
    · rw [if_pos h]; exact ⟨_, _, rfl⟩
    · rw [if_neg h, e]; exact ⟨_, _, rfl⟩
theorem cut_hit {c : Nat} {r : List Nat} : cut c (c :: r) = [] :: cut c r := by
  conv => lhs; unfold cut
  rw [if_pos rfl]
theorem cut_miss {c d : Nat} {r p : List Nat} {ps : List (List Nat)} (h : d ≠ c) (e : cut c r = p :: ps) : cut c (d :: r) = (d :: p) :: ps := by
  conv => lhs; unfold cut
  rw [if_neg h, e]
theorem cut_len (c : Nat) : ∀ l : List Nat, (cut c l).length ≤ l.length + 1
  | [] => Nat.le_refl _
  | d :: r => by
    have ih := cut_len c r
    obtain ⟨p, ps, e⟩ := cut_ne c r
    by_cases h : d = c
    · subst h
      rw [cut_hit, List.length_cons, List.length_cons]; omega
    · rw [cut_miss h e, List.length_cons]
      rw [e, List.length_cons] at ih
      rw [List.length_cons]; omega
theorem spl_cut (c : Nat) : ∀ (l acc : List Nat), ∀ p ps, cut c l = p :: ps → TL.spl [c] 0 acc l = (acc ++ p) :: ps
  | [], acc, p, ps, e => by
    cases e
    rw [TL.spl_nil, List.append_nil]
  | d :: r, acc, p, ps, e => by
    obtain ⟨p', ps', e'⟩ := cut_ne c r
    by_cases h : d = c
    · subst h
      rw [cut_hit] at e
      cases e
      rw [TL.spl_hit (by simp [TL.pre]), List.append_nil]
      show acc :: TL.spl [d] 0 [] r = _
      rw [spl_cut d r [] p' ps' e', e', List.nil_append]
    · rw [cut_miss h e'] at e
      cases e
      rw [TL.spl_miss (by simp [TL.pre, h]), spl_cut c r _ p' ps e', List.append_assoc]; rfl
theorem split_cut {c : Nat} (hc : c < 256) (l : List Nat) : Txt.split (sO l) ⟨#[c]⟩ = (cut c l).map sO := by
  have := SX.split_S (a := l) (b := [c]) (by simp) (by simp [hc])
  obtain ⟨p, ps, e⟩ := cut_ne c l
  rw [spl_cut c l [] p ps e, List.nil_append, ← e] at this
  exact this
theorem join_sO (a : List Nat) (ys : List (List Nat)) : Txt.join (sO a) (ys.map sO) = sO (TL.joinL a ys) := SX.join_S a ys
theorem cut_append (c : Nat) (b : List Nat) : ∀ a : List Nat, cut c (a ++ c :: b) = cut c a ++ cut c b
  | [] => by rw [List.nil_append, cut_hit]; rfl
  | d :: r => by
    have ih := cut_append c b r
    obtain ⟨p, ps, e⟩ := cut_ne c r
    by_cases h : d = c
    · subst h
      rw [List.cons_append, cut_hit, cut_hit, ih]; rfl
    · rw [List.cons_append, cut_miss h e, cut_miss h (p := p) (ps := ps ++ cut c b) (by rw [ih, e]; rfl)]; rfl
/-- the words of a part -/
def wordsL (l : List Nat) : List (List Nat) := (cut 32 l).filter (!·.isEmpty)
def maxN : List Nat → Nat
  | [] => 0
  | a :: l => max a (maxN l)
theorem maxN_append : ∀ a b : List Nat, maxN (a ++ b) = max (maxN a) (maxN b)
  | [], b => by simp [maxN]
  | x :: a, b => by
    show max x (maxN (a ++ b)) = max (max x (maxN a)) (maxN b)
    rw [maxN_append a b]; omega
theorem foldl_maxN : ∀ (l : List Nat) (n : Nat), (l.map Int.ofNat).foldl max (n : Int) = ((max n (maxN l) : Nat) : Int)
  | [], n => by simp [maxN]
  | a :: l, n => by
    show (l.map Int.ofNat).foldl max (max (n : Int) (a : Int)) = _
    rw [show max (n : Int) (a : Int) = ((max n a : Nat) : Int) by omega, foldl_maxN l]
    show _ = ((max n (max a (maxN l)) : Nat) : Int)
    omega
/-! the longest -/
def longL (x : List Nat) : Nat := maxN (((cut 10 x).flatMap wordsL).map List.length)
/-- sign by sign: the run, the most -/
def lgM : Nat → Nat → List Nat → Nat
  | _, m, [] => m
  | r, m, c :: t => let r' := if c = 32 ∨ c = 10 then 0 else r + 1
    lgM r' (max m r') t
theorem lgM_max : ∀ (t : List Nat) (r m : Nat), lgM r m t = max m (lgM r 0 t)
  | [], r, m => by simp [lgM]
  | c :: t, r, m => by
    show lgM _ (max m _) t = max m (lgM _ (max 0 _) t)
    rw [lgM_max t _ (max m _), lgM_max t _ (max 0 _)]; omega
/-- the longest of a part's words, its first word begun with r signs -/
def lgP (r : Nat) (x : List Nat) : Nat := match cut 32 x with
  | [] => 0
  | h :: ts => max (r + h.length) (maxN (ts.map List.length))
theorem maxN_filter : ∀ l : List (List Nat), maxN ((l.filter (!·.isEmpty)).map List.length) = maxN (l.map List.length)
  | [] => rfl
  | [] :: l => by
    show maxN ((l.filter _).map _) = max 0 (maxN (l.map List.length))
    rw [maxN_filter l]; omega
  | (a :: p) :: l => by
    show max _ (maxN ((l.filter _).map _)) = max _ _
    rw [maxN_filter l]
theorem lgP_words (x : List Nat) : lgP 0 x = maxN ((wordsL x).map List.length) := by
  unfold wordsL
  rw [maxN_filter]
  unfold lgP
  obtain ⟨p, ps, e⟩ := cut_ne 32 x
  rw [e]
  show max (0 + p.length) _ = max p.length _
  rw [Nat.zero_add]
theorem lgP_nil (r : Nat) : lgP r [] = r := by
  show max (r + 0) 0 = r
  omega
theorem lgP_blank (r : Nat) (t : List Nat) : lgP r (32 :: t) = max r (lgP 0 t) := by
  unfold lgP
  obtain ⟨p, ps, e⟩ := cut_ne 32 t
  rw [cut_hit, e]
  show max (r + 0) (max p.length _) = max r (max (0 + p.length) _)
  rw [Nat.zero_add, Nat.add_zero]
theorem lgP_sign {r c : Nat} {t : List Nat} (h : c ≠ 32) : lgP r (c :: t) = lgP (r + 1) t := by
  unfold lgP
  obtain ⟨p, ps, e⟩ := cut_ne 32 t
  rw [cut_miss h e, e]
  show max (r + (p.length + 1)) _ = max (r + 1 + p.length) _
  rw [show r + (p.length + 1) = r + 1 + p.length by omega]
theorem lgP_ge (r : Nat) (t : List Nat) : r ≤ lgP r t := by
  unfold lgP
  obtain ⟨p, ps, e⟩ := cut_ne 32 t
  rw [e]
  show r ≤ max (r + p.length) _
  omega
theorem lgM_cut : ∀ (x : List Nat) (r m : Nat), r ≤ m → ∀ p ps, cut 10 x = p :: ps → lgM r m x = max m (max (lgP r p) (maxN (ps.map (lgP 0))))
  | [], r, m, hr, p, ps, e => by
    cases e
    rw [lgP_nil]
    show m = max m (max r 0)
    omega
  | c :: t, r, m, hr, p, ps, e => by
    obtain ⟨p', ps', e'⟩ := cut_ne 10 t
    by_cases h : c = 10
    · subst h
      rw [cut_hit, e'] at e
      cases e
      show lgM 0 (max m 0) t = _
      rw [lgM_cut t 0 (max m 0) (Nat.zero_le _) p' ps' e', lgP_nil]
      show max (max m 0) (max (lgP 0 p') _) = max m (max r (max (lgP 0 p') _))
      omega
    · rw [cut_miss h e'] at e
      cases e
      by_cases hb : c = 32
      · subst hb
        show lgM 0 (max m 0) t = _
        rw [lgM_cut t 0 (max m 0) (Nat.zero_le _) p' ps e', lgP_blank]
        omega
      · show lgM (if c = 32 ∨ c = 10 then 0 else r + 1) (max m (if c = 32 ∨ c = 10 then 0 else r + 1)) t = _
        rw [if_neg (by simp [h, hb]), lgM_cut t (r + 1) (max m (r + 1)) (by omega) p' ps e', lgP_sign hb]
        have := lgP_ge (r + 1) p'
        omega
theorem maxN_flat : ∀ l : List (List Nat), maxN ((l.flatMap wordsL).map List.length) = maxN (l.map (lgP 0))
  | [] => rfl
  | x :: l => by
    rw [List.flatMap_cons, List.map_append, maxN_append, maxN_flat l, ← lgP_words]; rfl
theorem long_M (x : List Nat) : longL x = lgM 0 0 x := by
  unfold longL
  obtain ⟨p, ps, e⟩ := cut_ne 10 x
  rw [lgM_cut x 0 0 (Nat.le_refl _) p ps e, maxN_flat, e]
  show max (lgP 0 p) _ = max 0 (max (lgP 0 p) _)
  omega
/-! the wish -/
def joined (l : List Nat) : List Nat := TL.joinL [32] (wordsL l)
def wishL (x : List Nat) : Nat := maxN ((cut 10 x).map fun p => (joined p).length)
def worth (l w : Nat) : Nat := l + (w - 1)
/-- sign by sign: the letters, the words, whether a word's end is ahead, the most -/
def wsM : Nat → Nat → Bool → Nat → List Nat → Nat
  | _, _, _, m, [] => m
  | l, w, b, m, c :: t => if c = 10 then wsM 0 0 true (max m 0) t
    else if c = 32 then wsM l w true (max m (worth l w)) t
    else wsM (l + 1) (w + (if b then 1 else 0)) false (max m (worth (l + 1) (w + (if b then 1 else 0)))) t
def begs : Bool → List Nat → Nat
  | _, [] => 0
  | b, c :: t => if c = 32 then begs true t else (if b then 1 else 0) + begs false t
def lets (l : List Nat) : Nat := (l.filter (· ≠ 32)).length
theorem begs_cut : ∀ (t : List Nat) (p : List Nat) (ps : List (List Nat)), cut 32 t = p :: ps → begs false t = (ps.filter (!·.isEmpty)).length ∧ begs true t = ((p :: ps).filter (!·.isEmpty)).length
  | [], p, ps, e => by cases e; exact ⟨rfl, rfl⟩
  | c :: t, p, ps, e => by
    obtain ⟨p', ps', e'⟩ := cut_ne 32 t
    have ih := begs_cut t p' ps' e'
    by_cases h : c = 32
    · subst h
      rw [cut_hit, e'] at e
      cases e
      exact ⟨ih.2, ih.2⟩
    · rw [cut_miss h e'] at e
      cases e
      refine ⟨?_, ?_⟩
      · show (if c = 32 then begs true t else 0 + begs false t) = _
        rw [if_neg h, ih.1]; omega
      · show (if c = 32 then begs true t else 1 + begs false t) = _
        rw [if_neg h, ih.1]
        show 1 + _ = (List.filter _ ((c :: p') :: ps)).length
        rw [List.filter_cons_of_pos (by rfl), List.length_cons]; omega
theorem lets_cut : ∀ (t : List Nat), ((cut 32 t).map List.length).sum = lets t
  | [] => rfl
  | c :: t => by
    have ih := lets_cut t
    obtain ⟨p, ps, e⟩ := cut_ne 32 t
    by_cases h : c = 32
    · subst h
      rw [cut_hit, List.map_cons, List.sum_cons, ih]
      show 0 + lets t = lets (32 :: t)
      unfold lets
      rw [List.filter_cons_of_neg (by simp)]; omega
    · rw [cut_miss h e]
      rw [e] at ih
      show (p.length + 1) + (ps.map List.length).sum = _
      have ih : p.length + (ps.map List.length).sum = lets t := ih
      unfold lets
      rw [List.filter_cons_of_pos (by simp [h]), List.length_cons]
      unfold lets at ih
      omega
theorem sum_filter : ∀ l : List (List Nat), ((l.filter (!·.isEmpty)).map List.length).sum = (l.map List.length).sum
  | [] => rfl
  | [] :: l => by
    show ((l.filter _).map _).sum = 0 + (l.map List.length).sum
    rw [sum_filter l]; omega
  | (a :: p) :: l => by
    rw [List.filter_cons_of_pos (by rfl), List.map_cons, List.map_cons, List.sum_cons, List.sum_cons, sum_filter l]
theorem joinL_len (s : Nat) : ∀ l : List (List Nat), (TL.joinL [s] l).length = (l.map List.length).sum + (l.length - 1)
  | [] => rfl
  | [p] => by show p.length = (p.length + 0) + 0; omega
  | p :: q :: r => by
    have ih := joinL_len s (q :: r)
    show (p ++ ([s] ++ TL.joinL [s] (q :: r))).length = (p.length + ((q :: r).map List.length).sum) + ((q :: r).length + 1 - 1)
    rw [List.length_append, List.length_append, ih]
    show p.length + (1 + _) = _
    have : (q :: r).length = r.length + 1 := rfl
    omega
theorem joined_len (p : List Nat) : (joined p).length = worth (lets p) (begs true p) := by
  obtain ⟨h, ts, e⟩ := cut_ne 32 p
  unfold joined
  rw [joinL_len]
  unfold wordsL
  rw [sum_filter, lets_cut, (begs_cut p h ts e).2, e]; rfl
/-- a part's worth, from letters, words and what is ahead -/
def wsP (l w : Nat) (b : Bool) (p : List Nat) : Nat := worth (l + lets p) (w + begs b p)
theorem worth_mono {l l' w w' : Nat} (h1 : l ≤ l') (h2 : w ≤ w') : worth l w ≤ worth l' w' := by unfold worth; omega
theorem wsM_cut : ∀ (x : List Nat) (l w : Nat) (b : Bool) (m : Nat), worth l w ≤ m → ∀ p ps, cut 10 x = p :: ps → wsM l w b m x = max m (max (wsP l w b p) (maxN (ps.map fun p => wsP 0 0 true p)))
  | [], l, w, b, m, hm, p, ps, e => by
    cases e
    show m = max m (max (worth (l + 0) (w + 0)) 0)
    rw [Nat.add_zero, Nat.add_zero]; omega
  | c :: t, l, w, b, m, hm, p, ps, e => by
    obtain ⟨p', ps', e'⟩ := cut_ne 10 t
    by_cases h : c = 10
    · subst h
      rw [cut_hit, e'] at e
      cases e
      show wsM 0 0 true (max m 0) t = _
      rw [wsM_cut t 0 0 true (max m 0) (by unfold worth; omega) p' ps' e']
      show max (max m 0) (max (wsP 0 0 true p') _) = max m (max (worth (l + 0) (w + 0)) (max (wsP 0 0 true p') _))
      rw [Nat.add_zero, Nat.add_zero]; omega
    · rw [cut_miss h e'] at e
      cases e
      by_cases hb : c = 32
      · subst hb
        show wsM l w true (max m (worth l w)) t = _
        rw [wsM_cut t l w true _ (by omega) p' ps e']
        have e1 : wsP l w b (32 :: p') = wsP l w true p' := by
          unfold wsP lets
          rw [List.filter_cons_of_neg (by simp)]
          rfl
        rw [e1]; omega
      · show (if c = 10 then wsM 0 0 true (max m 0) t else if c = 32 then wsM l w true (max m (worth l w)) t else wsM (l + 1) (w + (if b then 1 else 0)) false (max m (worth (l + 1) (w + (if b then 1 else 0)))) t) = _
        rw [if_neg h, if_neg hb, wsM_cut t (l + 1) _ false _ (by omega) p' ps e']
        have e1 : wsP l w b (c :: p') = wsP (l + 1) (w + (if b then 1 else 0)) false p' := by
          unfold wsP lets
          rw [List.filter_cons_of_pos (by simp [hb]), List.length_cons]
          show worth _ (w + (if c = 32 then begs true p' else (if b then 1 else 0) + begs false p')) = _
          rw [if_neg hb, show l + ((p'.filter (· ≠ 32)).length + 1) = l + 1 + (p'.filter (· ≠ 32)).length by omega, Nat.add_assoc w]
        have e2 : worth (l + 1) (w + (if b then 1 else 0)) ≤ wsP (l + 1) (w + (if b then 1 else 0)) false p' := worth_mono (by omega) (by omega)
        rw [e1]; omega
theorem wish_M (x : List Nat) : wishL x = wsM 0 0 true 0 x := by
  obtain ⟨p, ps, e⟩ := cut_ne 10 x
  rw [wsM_cut x 0 0 true 0 (by unfold worth; omega) p ps e]
  have e1 : ∀ q, (joined q).length = wsP 0 0 true q := fun q => by
    rw [joined_len]; unfold wsP; rw [Nat.zero_add, Nat.zero_add]
  unfold wishL
  rw [e]
  show max (joined p).length (maxN (ps.map fun p => (joined p).length)) = _
  rw [e1 p, show (fun p => (joined p).length) = (fun p => wsP 0 0 true p) from funext e1]; omega
theorem long_append (a b : List Nat) : longL (a ++ 10 :: b) = max (longL a) (longL b) := by
  unfold longL
  rw [cut_append, List.flatMap_append, List.map_append, maxN_append]
theorem wish_append (a b : List Nat) : wishL (a ++ 10 :: b) = max (wishL a) (wishL b) := by
  unfold wishL
  rw [cut_append, List.map_append, maxN_append]
/-! more blanks -/
def rep2 : List Nat → List Nat
  | [] => []
  | c :: t => if c = 32 then 32 :: 32 :: rep2 t else c :: rep2 t
theorem rep2_cut : ∀ x : List Nat, TL.joinL [32, 32] (cut 32 x) = rep2 x
  | [] => rfl
  | c :: t => by
    have ih := rep2_cut t
    obtain ⟨p, ps, e⟩ := cut_ne 32 t
    by_cases h : c = 32
    · subst h
      rw [cut_hit]
      rw [e] at ih ⊢
      show [] ++ ([32, 32] ++ TL.joinL [32, 32] (p :: ps)) = 32 :: 32 :: rep2 t
      rw [ih]; rfl
    · rw [cut_miss h e]
      rw [e] at ih
      have e2 : rep2 (c :: t) = c :: rep2 t := by
        show (if c = 32 then _ else _) = _
        rw [if_neg h]
      rw [e2, ← ih]
      cases ps <;> rfl
theorem rep2_len : ∀ x : List Nat, (rep2 x).length ≤ 2 * x.length
  | [] => Nat.le_refl _
  | c :: t => by
    have ih := rep2_len t
    show (if c = 32 then 32 :: 32 :: rep2 t else c :: rep2 t).length ≤ 2 * (t.length + 1)
    split
    · rw [List.length_cons, List.length_cons]; omega
    · rw [List.length_cons]; omega
theorem lgM_rep : ∀ (x : List Nat) (r m : Nat), lgM r m (rep2 x ++ [32, 32]) = lgM r m x
  | [], r, m => by
    show max (max m 0) 0 = m
    omega
  | c :: t, r, m => by
    by_cases h : c = 32
    · subst h
      show lgM 0 (max (max m 0) 0) (rep2 t ++ [32, 32]) = lgM 0 (max m 0) t
      rw [show max (max m 0) 0 = max m 0 by omega]
      exact lgM_rep t 0 _
    · show lgM r m ((if c = 32 then 32 :: 32 :: rep2 t else c :: rep2 t) ++ [32, 32]) = _
      rw [if_neg h]
      exact lgM_rep t _ _
theorem wsM_rep : ∀ (x : List Nat) (l w : Nat) (b : Bool) (m : Nat), worth l w ≤ m → wsM l w b m (rep2 x ++ [32, 32]) = wsM l w b m x
  | [], l, w, b, m, hm => by
    show max (max m (worth l w)) (worth l w) = m
    omega
  | c :: t, l, w, b, m, hm => by
    by_cases h : c = 32
    · subst h
      show wsM l w true (max (max m (worth l w)) (worth l w)) (rep2 t ++ [32, 32]) = wsM l w true (max m (worth l w)) t
      rw [show max (max m (worth l w)) (worth l w) = max m (worth l w) by omega]
      exact wsM_rep t l w true _ (by omega)
    · show wsM l w b m ((if c = 32 then 32 :: 32 :: rep2 t else c :: rep2 t) ++ [32, 32]) = _
      rw [if_neg h]
      show (if c = 10 then wsM 0 0 true (max m 0) (rep2 t ++ [32, 32]) else if c = 32 then wsM l w true (max m (worth l w)) (rep2 t ++ [32, 32]) else wsM (l + 1) (w + (if b then 1 else 0)) false (max m (worth (l + 1) (w + (if b then 1 else 0)))) (rep2 t ++ [32, 32])) = (if c = 10 then wsM 0 0 true (max m 0) t else if c = 32 then wsM l w true (max m (worth l w)) t else wsM (l + 1) (w + (if b then 1 else 0)) false (max m (worth (l + 1) (w + (if b then 1 else 0)))) t)
      by_cases h10 : c = 10
      · rw [if_pos h10, if_pos h10]
        exact wsM_rep t 0 0 true _ (by unfold worth; omega)
      · rw [if_neg h10, if_neg h10, if_neg h, if_neg h]
        exact wsM_rep t _ _ false _ (by omega)
def wideL (x : List Nat) : List Nat := 32 :: (rep2 x ++ [32, 32])
theorem long_wide (x : List Nat) : longL (wideL x) = longL x := by
  rw [long_M, long_M]
  exact lgM_rep x 0 0
theorem wish_wide (x : List Nat) : wishL (wideL x) = wishL x := by
  rw [wish_M, wish_M]
  exact wsM_rep x 0 0 true 0 (by unfold worth; omega)
theorem replace_rep (x : List Nat) : Txt.replace (sO x) " " "  " = sO (rep2 x) := by
  have h := StrLaws.replace_one (sO x) "  " 32
  have e1 : (⟨#[32]⟩ : Str) = " " := by decide +kernel
  have e2 : ("  " : Str) = sO [32, 32] := by decide +kernel
  rw [split_cut (by decide), e2, ← TL.join_eq, join_sO, rep2_cut] at h
  rw [← e1, e2]
  exact h
theorem max_cast (a b : Nat) : (if (a : Int) > (b : Int) then (a : Int) else (b : Int)) = ((max b a : Nat) : Int) := by
  split <;> omega
theorem worth_cast (le wo : Nat) : ((le : Int) + if (wo : Int) - 1 > 0 then (wo : Int) - 1 else 0) = ((worth le wo : Nat) : Int) := by
  unfold worth
  split <;> omega
theorem lgM_end {r m c : Nat} {t : List Nat} (e : c = 32 ∨ c = 10) : lgM r m (c :: t) = lgM 0 (max m 0) t := by
  show lgM (if c = 32 ∨ c = 10 then 0 else r + 1) (max m (if c = 32 ∨ c = 10 then 0 else r + 1)) t = _
  rw [if_pos e]
theorem lgM_run {r m c : Nat} {t : List Nat} (e : ¬ (c = 32 ∨ c = 10)) : lgM r m (c :: t) = lgM (r + 1) (max m (r + 1)) t := by
  show lgM (if c = 32 ∨ c = 10 then 0 else r + 1) (max m (if c = 32 ∨ c = 10 then 0 else r + 1)) t = _
  rw [if_neg e]
theorem wsM_feed {l w m c : Nat} {b : Bool} {t : List Nat} (e : c = 10) : wsM l w b m (c :: t) = wsM 0 0 true (max m (worth 0 0)) t := by subst e; rfl
theorem wsM_blank {l w m c : Nat} {b : Bool} {t : List Nat} (e : ¬ c = 10) (e2 : c = 32) : wsM l w b m (c :: t) = wsM l w true (max m (worth l w)) t := by subst e2; rfl
theorem wsM_sign {l w m c : Nat} {b : Bool} {t : List Nat} (e : ¬ c = 10) (e2 : ¬ c = 32) : wsM l w b m (c :: t) = wsM (l + 1) (w + (if b then 1 else 0)) false (max m (worth (l + 1) (w + (if b then 1 else 0)))) t := by
  show (if c = 10 then _ else if c = 32 then _ else _) = _
  rw [if_neg e, if_neg e2]
theorem cut_sum (c : Nat) : ∀ l : List Nat, ((cut c l).map List.length).sum ≤ l.length
  | [] => Nat.le_refl _
  | d :: r => by
    have ih := cut_sum c r
    obtain ⟨p, ps, e⟩ := cut_ne c r
    by_cases h : d = c
    · subst h
      rw [cut_hit, List.map_cons, List.sum_cons, List.length_cons]
      show 0 + _ ≤ _
      omega
    · rw [cut_miss h e, List.map_cons, List.sum_cons, List.length_cons, List.length_cons]
      rw [e, List.map_cons, List.sum_cons] at ih
      omega
theorem mem_sum {l : List (List Nat)} {p : List Nat} (h : p ∈ l) : p.length ≤ (l.map List.length).sum := by
  induction l with
  | nil => cases h
  | cons a l ih =>
    rw [List.map_cons, List.sum_cons]
    rcases List.mem_cons.mp h with rfl | h
    · omega
    · have := ih h; omega
theorem words_sum (p : List Nat) : ((wordsL p).map List.length).sum ≤ p.length := by
  unfold wordsL
  rw [sum_filter]
  exact cut_sum 32 p
theorem words_pos {p w : List Nat} (h : w ∈ wordsL p) : 0 < w.length := by
  have := (List.mem_filter.mp h).2
  cases w with
  | nil => cases this
  | cons a w => exact Nat.succ_pos _
theorem count_sum : ∀ {l : List (List Nat)}, (∀ w ∈ l, 0 < w.length) → l.length ≤ (l.map List.length).sum
  | [], _ => Nat.le_refl _
  | w :: l, h => by
    have h1 := h w (List.mem_cons_self ..)
    have h2 := count_sum fun y hy => h y (List.mem_cons_of_mem _ hy)
    rw [List.map_cons, List.sum_cons, List.length_cons]; omega
theorem words_count (p : List Nat) : (wordsL p).length ≤ p.length := Nat.le_trans (count_sum fun _ h => words_pos h) (words_sum p)
theorem flat_count : ∀ l : List (List Nat), (l.flatMap wordsL).length ≤ (l.map List.length).sum
  | [] => Nat.le_refl _
  | p :: l => by
    rw [List.flatMap_cons, List.length_append, List.map_cons, List.sum_cons]
    have h1 := words_count p
    have h2 := flat_count l
    omega
theorem part_len {c : Nat} {l p : List Nat} (h : p ∈ cut c l) : p.length ≤ l.length := Nat.le_trans (mem_sum h) (cut_sum c l)
theorem flat_take (f : List Nat → List (List Nat)) (l : List (List Nat)) (i : Nat) : ((l.take i).flatMap f).length ≤ (l.flatMap f).length := by
  conv => rhs; rw [← List.take_append_drop i l]
  rw [List.flatMap_append, List.length_append]; omega
theorem maxN_ge : ∀ {l : List Nat} {k : Nat}, k ∈ l → k ≤ maxN l
  | a :: l, k, h => by
    show k ≤ max a (maxN l)
    rcases List.mem_cons.mp h with rfl | h
    · omega
    · have := maxN_ge h; omega
theorem maxN_le : ∀ {l : List Nat} {m : Nat}, (∀ k ∈ l, k ≤ m) → maxN l ≤ m
  | [], m, _ => Nat.zero_le _
  | a :: l, m, h => by
    show max a (maxN l) ≤ m
    have h1 := h a (List.mem_cons_self ..)
    have h2 := maxN_le fun k hk => h k (List.mem_cons_of_mem _ hk)
    omega
theorem maxN_of {l : List Nat} {m : Int} (h : m ∈ l.map Int.ofNat) (g : ∀ y ∈ l.map Int.ofNat, y ≤ m) : m = ((maxN l : Nat) : Int) := by
  obtain ⟨k, hk, rfl⟩ := List.mem_map.mp h
  have h1 := maxN_ge hk
  have h2 : maxN l ≤ k := maxN_le fun j hj => by
    have := g _ (List.mem_map.mpr ⟨j, hj, rfl⟩)
    exact Int.ofNat_le.mp this
  show ((k : Nat) : Int) = _
  omega
/-! the signs of words -/
def alphL : List Nat := (Str.ofString "!\"#$&'()*+,-./0123456789:;<=>?@ABCDEFGHIJKLMNOPQRSTUVWXYZ[\\]^_`abcdefghijklmnopqrstuvwxyz{}~").cps.toList
theorem alph_len : alphL.length = 92 := by decide +kernel
theorem alph_ok : ∀ c ∈ alphL, 33 ≤ c ∧ c < 127 := by decide +kernel
def signL (f s : Int) (k : Nat) : Nat := alphL.getD ((f + s * (k : Int)) % 92).toNat 33
theorem signL_at (f s : Int) (k : Nat) : atI alphL ((f + s * (k : Int)) % 92) = some (signL f s k) := by
  have h0 := Int.emod_nonneg (f + s * (k : Int)) (b := 92) (by decide)
  have h1 := Int.emod_lt_of_pos (f + s * (k : Int)) (b := 92) (by decide)
  unfold signL
  generalize (f + s * (k : Int)) % 92 = i at h0 h1
  obtain ⟨j, rfl⟩ := Int.eq_ofNat_of_zero_le h0
  have hj : j < alphL.length := by rw [alph_len]; omega
  unfold atI
  rw [ixN_nat hj, Int.toNat_natCast, List.getD_eq_getElem?_getD, List.getElem?_eq_getElem hj]
  exact List.getElem?_eq_getElem hj
theorem signL_ok (f s : Int) (k : Nat) : 33 ≤ signL f s k ∧ signL f s k < 127 := by
  have h := signL_at f s k
  unfold atI at h
  obtain ⟨j, _, hj⟩ := Option.bind_eq_some_iff.mp h
  exact alph_ok _ (List.mem_of_getElem? hj)
theorem joinL_signs : ∀ l : List Nat, TL.joinL [] (l.map fun c => [c]) = l
  | [] => rfl
  | [c] => rfl
  | c :: d :: l => by
    show [c] ++ ([] ++ TL.joinL [] ((d :: l).map fun c => [c])) = _
    rw [joinL_signs (d :: l)]; rfl
end My

/-! ### rules for texts -/
namespace My
open PySem PySem.Spec PyProof.Rows L2
section
variable {X : Cx}
/-- c * n -/
def rRepS : R2 := fun x y H Q => ∃ (c : Nat) (n : Nat), x = .str ⟨#[c]⟩ ∧ y = .int (n : Int) ∧ 1 ≤ n ∧ n ≤ 1000 ∧ Q (.str (sO (List.replicate n c))) H
theorem fold_rep (c : Nat) : ∀ (n : Nat) (acc : Array Nat), ((List.replicate n #[c]).foldl (· ++ ·) acc) = (acc.toList ++ List.replicate n c).toArray
  | 0, acc => by simp
  | n + 1, acc => by
    rw [List.replicate_succ, List.foldl_cons, fold_rep c n]
    simp [List.replicate_succ]
theorem op_repS : OpR X (binaryOp .Mult) rRepS := by
  intro pins s σ H x y v u Q I rx ry h
  obtain ⟨c, n, rfl, rfl, n1, n2, q⟩ := h
  obtain ⟨t, rfl⟩ := rx
  obtain ⟨t', rfl⟩ := ry
  refine P.mul_str ?_ (fun _ _ => ?_) (fun _ _ => ?_) ?_
  · rw [decide_eq_false (by omega), decide_eq_false (by omega)]; rfl
  · show ¬ (((#[c] : Array Nat).size : Int) > _)
    have h1 : (n : Int) ≤ 1000 := by omega
    have h2 : 1 ≤ (2 ^ 63 - 1 : Int) / (n : Int) := by
      apply Int.le_ediv_of_mul_le (by omega)
      omega
    show ¬ ((1 : Nat) : Int) > _
    omega
  · show PySem.Builtin.Str.tooLong (1 * (n : Int).toNat) = false
    unfold PySem.Builtin.Str.tooLong
    exact decide_eq_false (by rw [sizeLine_eq]; simp; omega)
  · rw [if_neg (by omega)]
    have e : (⟨(List.replicate (n : Int).toNat (⟨#[c]⟩ : Str).cps).foldl (· ++ ·) #[]⟩ : Str) = sO (List.replicate n c) := by
      rw [Int.toNat_natCast]
      show (⟨(List.replicate n #[c]).foldl (· ++ ·) #[]⟩ : Str) = _
      rw [fold_rep]; simp [sO]
    split
    · rename_i h
      have hn : n = 1 := by
        have : ((⟨#[c]⟩ : Str).length == 0) = false := rfl
        rw [this, Bool.or_false] at h
        have := eq_of_beq h
        omega
      subst hn
      exact ⟨.str (sO [c]), H, I, ⟨t, rfl⟩, q⟩
    · rw [e]
      refine ⟨?_, .str _, H, I.tok _, ⟨_, rfl⟩, q⟩
      show (List.replicate n c).toArray.size ≤ sizeLine
      rw [List.size_toArray, List.length_replicate, sizeLine_eq]; omega
/-- x.split(c): a new list of the parts -/
theorem mt_splitN : MtR X "str.split" (fun x xs H Q => ∃ (l : List Nat) (c : Nat), x = .str (sO l) ∧ xs = [.str ⟨#[c]⟩] ∧ c < 256 ∧ l.length + 2 ≤ sizeLine ∧ New H (.lst ((cut c l).map fun p => .str (sO p))) Q) := by
  intro pins s σ H x xs v us Q I rx rs h
  obtain ⟨l, c, rfl, rfl, hc, hl, q⟩ := h
  refine mt_split pins s σ H _ _ v us Q I rx rs ⟨sO l, ⟨#[c]⟩, rfl, rfl, rfl, hl, fun p hp => ?_⟩
  rw [split_cut hc, List.map_map]
  exact q.go p hp
theorem pe_splitN {o e : Expr} {to te : TE} {apos pos : Pos} (ho : PE X o to) (he : PE X e te) (hs : starEach [e] X.env = [(false, eval e X.env)] := by rfl) (hbase : attributeBase o "split" X.env (eval o X.env) = eval o X.env := by rfl) (hline : (apos.endLine == pos.line) = true := by rfl) :
    PE X (.Call (.Attribute o "split" apos) [e] [] pos) (tM1 (fun x xs H Q => ∃ (l : List Nat) (c : Nat), x = .str (sO l) ∧ xs = [.str ⟨#[c]⟩] ∧ c < 256 ∧ l.length + 2 ≤ sizeLine ∧ New H (.lst ((cut c l).map fun p => .str (sO p))) Q) to te) :=
  pe_m1 PySem.F.slot_str_split PySem.F.type_str_split mt_splitN ho he hs hbase hline
/-- sep.join(list of texts) -/
theorem mt_joinN {K : PySem.W.Frag} (hK : X.K = K) : MtR X "str.join" (fun x xs H Q => ∃ (a : List Nat) (p : Addr) (ys : List (List Nat)), x = .str (sO a) ∧ xs = [.ref p] ∧ SqL K H p (ys.map fun y => V.str (sO y)) ∧ (ys.map List.length).sum + ys.length * a.length ≤ 16777216 ∧ Q (.str (sO (TL.joinL a ys))) H) := by
  intro pins s σ H x xs v us Q I rx rs h
  obtain ⟨a, p, ys, rfl, rfl, hp, hz, q⟩ := h
  subst hK
  refine mt_join pins s σ H _ _ v us Q I rx rs ⟨sO a, p, ys.map sO, rfl, rfl, .inl (by rw [List.map_map]; exact hp), ?_, ?_⟩
  · rw [List.map_map, List.length_map]; exact hz
  · rw [join_sO]; exact q
theorem pe_joinN {K : PySem.W.Frag} (hK : X.K = K) {o e : Expr} {to te : TE} {apos pos : Pos} (ho : PE X o to) (he : PE X e te) (hs : starEach [e] X.env = [(false, eval e X.env)] := by rfl) (hbase : attributeBase o "join" X.env (eval o X.env) = eval o X.env := by rfl) (hline : (apos.endLine == pos.line) = true := by rfl) :
    PE X (.Call (.Attribute o "join" apos) [e] [] pos) (tM1 (fun x xs H Q => ∃ (a : List Nat) (p : Addr) (ys : List (List Nat)), x = .str (sO a) ∧ xs = [.ref p] ∧ SqL K H p (ys.map fun y => V.str (sO y)) ∧ (ys.map List.length).sum + ys.length * a.length ≤ 16777216 ∧ Q (.str (sO (TL.joinL a ys))) H) to te) :=
  pe_m1 PySem.F.slot_str_join PySem.F.type_str_join (mt_joinN hK) ho he hs hbase hline
/-- 'c' op e where e wants a token -/
theorem pe_opT {op : Operator} {r : R2} {c : Str} {j : Nat} {p pos : Pos} {f : Expr} {tf : TE} (ho : OpR X (binaryOp op) r) (hb : PET X f tf) : PE X (.BinOp (.Constant (.str c) j p) op f pos) (tOp r (tC (.str c)) tf) := by
  refine ⟨fun pins s σ H Q I h => ?_⟩
  refine wpAny_BinOp (PySem.Calls.Constant_str ?_)
  exact thn (hb pins _ σ H _ (Nat.succ_le_succ (Nat.zero_le _)) (I.tok _) h) fun u s2 ⟨y, H2, I2, r2, q2⟩ => ho pins s2 σ H2 (.str c) y _ u Q I2 ⟨_, rfl⟩ r2 q2
end
/-! #### walks -/
theorem it_list {K : PySem.W.Frag} {a : Addr} {xs : List V} {Qd : Hp → Prop} {Body : (Hp → Prop) → V → Hp → Prop} {H0 : Hp} (Pv : Nat → Hp → Prop) (h0 : Pv 0 H0) (hl : ∀ i H, i ≤ xs.length → Pv i H → SqL K H a xs)
    (hs : ∀ i x H, xs[i]? = some x → Pv i H → Body (Pv (i + 1)) x H) (hd : ∀ H, Pv xs.length H → Qd H) :
    ∃ W : Nat → Nat → Hp → Prop, (∃ m, W 0 m H0) ∧ ∀ i m H, W i m H →
      ((Itl K a).stop i H ∧ Qd H) ∨ ((Itl K a).go i H ∧ ∃ Nx : Hp → Prop, (∀ H', Nx H' → ∃ m', m' < m ∧ W (i + 1) m' H') ∧ ∀ x H', (Itl K a).yld i H x H' → Body Nx x H') := by
  refine ⟨fun i m H => m = xs.length - i ∧ i ≤ xs.length ∧ Pv i H, ⟨xs.length, by simp, Nat.zero_le _, h0⟩, ?_⟩
  rintro i m H ⟨rfl, hi, p⟩
  have q := hl i H hi p
  by_cases hlt : i < xs.length
  · refine .inr ⟨⟨xs, xs[i], q, by simp [hlt]⟩, Pv (i + 1), fun H' p' => ⟨xs.length - (i + 1), by omega, rfl, hlt, p'⟩, fun x H' y => ?_⟩
    obtain ⟨e, y⟩ := y
    subst e
    exact hs i x _ (y xs q) p
  · have e : i = xs.length := by omega
    subst e
    exact .inl ⟨⟨xs, q, Nat.le_refl _⟩, hd H p⟩
/-- for c in a text -/
theorem for_str {l : List Nat} {g : TG} {tb : TS} {D : Ends} {σ : L2.St} {H : Hp} (Pv : Nat → L2.St → Hp → Prop) (h0 : Pv 0 σ H)
    (hs : ∀ i c σ H, l[i]? = some c → Pv i σ H → g (.str ⟨#[c]⟩) σ H fun σ2 H2 => tb { D with nx := Pv (i + 1), ct := Pv (i + 1), bk := D.nx } σ2 H2) (hd : ∀ σ H, Pv l.length σ H → D.nx σ H) :
    ∃ W : Nat → Nat → L2.St → Hp → Prop, (∃ m, W 0 m σ H) ∧ ∀ i m σ H, W i m σ H →
      ((Its (sO l)).stop i H ∧ D.nx σ H) ∨ ((Its (sO l)).go i H ∧ ∃ N : L2.St → Hp → Prop, (∀ σ' H', N σ' H' → ∃ m', m' < m ∧ W (i + 1) m' σ' H') ∧ ∀ x H', (Its (sO l)).yld i H x H' → g x σ H' fun σ2 H2 => tb { D with nx := N, ct := N, bk := D.nx } σ2 H2) := by
  refine ⟨fun i m σ H => m = l.length - i ∧ i ≤ l.length ∧ Pv i σ H, ⟨l.length, by simp, Nat.zero_le _, h0⟩, ?_⟩
  rintro i m σ H ⟨rfl, hi, p⟩
  by_cases hlt : i < l.length
  · refine .inr ⟨?_, Pv (i + 1), fun σ' H' p' => ⟨l.length - (i + 1), by omega, rfl, hlt, p'⟩, fun x H' y => ?_⟩
    · show i < l.toArray.size
      rw [List.size_toArray]; exact hlt
    · obtain ⟨rfl, c, hc, rfl⟩ := y
      have hc : l.toArray[i]? = some c := hc
      rw [List.getElem?_toArray] at hc
      exact hs i c σ _ hc p
  · have e : i = l.length := by omega
    subst e
    refine .inl ⟨?_, hd σ H p⟩
    show l.toArray.size ≤ l.length
    rw [List.size_toArray]; exact Nat.le_refl _
/-! #### written texts -/
theorem blank_eq : Str.ofString " " = ⟨#[32]⟩ := by decide +kernel
theorem feed_eq : Str.ofString "\n" = ⟨#[10]⟩ := by decide +kernel
theorem ends_eq : Str.ofString " \n" = sO [32, 10] := by decide +kernel
theorem empty_eq : Str.ofString "" = sO [] := by decide +kernel
theorem str_inj_dec {l m : List Nat} : decide (V.str (sO l) = V.str (sO m)) = decide (l = m) := decide_eq_decide.mpr ⟨fun e => by
  have := congrArg (fun v => match v with | V.str x => x.cps.toList | _ => []) e
  simpa [sO] using this, fun e => by rw [e]⟩
theorem empty_dec {l : List Nat} : decide (V.str (sO l) = V.str (Str.ofString "")) = l.isEmpty := by
  rw [empty_eq, str_inj_dec]
  cases l <;> rfl
theorem sign_dec {c d : Nat} : decide (V.str ⟨#[c]⟩ = V.str ⟨#[d]⟩) = decide (c = d) := by
  have := str_inj_dec (l := [c]) (m := [d])
  rw [show (V.str ⟨#[c]⟩) = V.str (sO [c]) from rfl, show (V.str ⟨#[d]⟩) = V.str (sO [d]) from rfl, this]
  exact decide_eq_decide.mpr ⟨fun e => by cases e; rfl, fun e => by rw [e]⟩
theorem feed_dec {c : Nat} : decide (V.str ⟨#[c]⟩ = V.str (Str.ofString "\n")) = decide (c = 10) := by rw [feed_eq, sign_dec]
theorem blank_dec {c : Nat} : decide (V.str ⟨#[c]⟩ = V.str (Str.ofString " ")) = decide (c = 32) := by rw [blank_eq, sign_dec]
theorem ends_dec {c : Nat} : decide (c ∈ (Str.ofString " \n").cps.toList) = decide (c = 32 ∨ c = 10) := by
  rw [ends_eq]
  exact decide_eq_decide.mpr (by simp [sO])
theorem sO_append (a b : List Nat) : sO a ++ sO b = sO (a ++ b) := by
  show (⟨a.toArray ++ b.toArray⟩ : Str) = ⟨(a ++ b).toArray⟩
  simp
theorem sO_len (l : List Nat) : (sO l).length = l.length := by
  show l.toArray.size = _
  rw [List.size_toArray]
theorem cutS_take (l : List Nat) (m : Nat) : cutS (sO l) none (some (m : Int)) = sO (l.take m) := by
  unfold cutS
  rw [HT.sIx_none, HT.sIx_nat, Nat.sub_zero, List.drop_zero, sO_len]
  show sO (l.take (min m l.length)) = _
  by_cases h : m ≤ l.length
  · rw [Nat.min_eq_left h]
  · rw [Nat.min_eq_right (by omega), List.take_of_length_le (Nat.le_refl _), List.take_of_length_le (by omega)]
end My

/-! ### max(xs, default = d) of ints -/
namespace My
open PySem PySem.Spec PyProof.Rows L2
def maxDef (d : Int) : List Int → Int
  | [] => d
  | n :: ns => ns.foldl max n
def rMaxDef (K : PySem.W.Frag) : List V → List V → Hp → VK → Prop := fun vs zs H Q => ∃ (a : Addr) (ns : List Int) (d : Int), vs = [.ref a] ∧ zs = [.int d] ∧ SqL K H a (ns.map V.int) ∧ Q (.int (maxDef d ns)) H
theorem reads_ints {h : Heap} : ∀ {ns : List Int} {us : List Value}, Vals (ns.map V.int) us → ∃ as, ReadsAll h us (ns.map .int) as
  | [], _, .nil => ⟨_, .nil⟩
  | n :: ns, _, .cons r t => by
    obtain ⟨k, rfl⟩ := r
    obtain ⟨as, ha⟩ := reads_ints (h := h) t
    exact ⟨_, .cons (.int n k) ha⟩
theorem cr_maxDef {X : Cx} (hc : X.calm = true) (hu : X.A.units + 64 < cLine) : CallRK X (.builtin "max") [Str.ofString "default"] (rMaxDef X.K) := by
  intro pins s σ H vs zs us ws Q I r rz h
  obtain ⟨a, ns, d, rfl, rfl, hs, q⟩ := h
  obtain rfl := Vals.ref1 r
  obtain ⟨w1, rfl, e1⟩ := vals1 rz
  obtain ⟨tk, rfl⟩ := e1
  obtain ⟨its, rv, hl, hz⟩ := I.list hs
  obtain ⟨as, hr⟩ := reads_ints (h := s.heap) rv
  have hd : PyData.depthAll (ns.map PyData.int) ≤ 1 := depthAll_map (g := PyData.int) (m := 1) (fun x => by simp [PyData.depth]) ns
  refine PySem.W.max_list_default (I.ok.hd hc) hl.isList (by simpa using hr) ?_ (by omega) (fun e h' tk2 hk => ?_) (fun y ys i v h' tk2 bs e hv hrd hk => ?_)
  · refine ⟨fun x hx y hy => ?_, fun x hx => ?_⟩
    · obtain ⟨n, _, rfl⟩ := List.mem_map.mp hx
      obtain ⟨m, _, rfl⟩ := List.mem_map.mp hy
      rfl
    · obtain ⟨n, _, rfl⟩ := List.mem_map.mp hx
      intro z; cases z
  · cases ns with
    | nil => exact ⟨.int d, H, I.kept hk, ⟨tk, rfl⟩, q⟩
    | cons n ns => cases e
  · cases ns with
    | nil => cases e
    | cons n ns =>
      cases e
      rw [PySem.W.maxD_ints] at hrd
      obtain ⟨t, rfl, _⟩ := reads_int_inv hrd
      exact ⟨.int _, H, I.kept hk, ⟨t, rfl⟩, q⟩
theorem cr_maxDefK {X : Cx} {K : PySem.W.Frag} (hc : X.calm = true) (hu : X.A.units + 64 < cLine) (h : X.K = K) : CallRK X (.builtin "max") [Str.ofString "default"] (rMaxDef K) := by subst h; exact cr_maxDef hc hu
theorem maxDef_N (l : List Nat) : maxDef 0 (l.map Int.ofNat) = ((maxN l : Nat) : Int) := by
  cases l with
  | nil => rfl
  | cons a l =>
    show (l.map Int.ofNat).foldl max (a : Int) = _
    rw [foldl_maxN]; rfl
end My

/-! ### lines of a part, of a text, at a width -/
namespace My
open PySem L2
abbrev jn (g : List (List Nat)) : List Nat := TL.joinL [32] g
theorem jn_snoc : ∀ (g : List (List Nat)) (x : List Nat), g ≠ [] → jn (g ++ [x]) = jn g ++ 32 :: x
  | [], _, h => absurd rfl h
  | [a], x, _ => rfl
  | a :: b :: g, x, _ => by
    have ih := jn_snoc (b :: g) x (by simp)
    show a ++ ([32] ++ jn (b :: g ++ [x])) = (a ++ ([32] ++ jn (b :: g))) ++ 32 :: x
    rw [ih]; simp
theorem jn_ne {g : List (List Nat)} (h : g ≠ []) (hw : ∀ w ∈ g, 0 < w.length) : jn g ≠ [] := by
  cases g with
  | nil => exact absurd rfl h
  | cons a g =>
    have ha := hw a (List.mem_cons_self ..)
    cases a with
    | nil => cases ha
    | cons c a => cases g <;> (intro e; cases e)
/-- the lines that come of a line begun and the words behind it -/
def lnsM (w : Nat) : List (List Nat) → List Nat → List (List Nat)
  | [], line => [line]
  | x :: ws, line => if line.isEmpty then lnsM w ws x else if line.length + 1 + x.length ≤ w then lnsM w ws (line ++ 32 :: x) else line :: lnsM w ws x
def linesL (w : Nat) (p : List Nat) : List (List Nat) := lnsM w (wordsL p) []
def wrapL (w : Nat) (x : List Nat) : List (List Nat) := (cut 10 x).flatMap (linesL w)
/-! #### by groups of words -/
/-- how many of the words stand behind a line of l signs -/
def moreN (w : Nat) : Nat → List (List Nat) → Nat
  | _, [] => 0
  | l, x :: ws => if l + 1 + x.length ≤ w then moreN w (l + 1 + x.length) ws + 1 else 0
/-- how many of the words stand in one line, one at least -/
def fitN (w : Nat) : List (List Nat) → Nat
  | [] => 0
  | x :: ws => moreN w x.length ws + 1
/-- the words, line by line -/
def grpM (w : Nat) : List (List Nat) → List (List Nat) → List (List (List Nat))
  | [], g => [g]
  | x :: ws, g => if (jn g).length + 1 + x.length ≤ w then grpM w ws (g ++ [x]) else g :: grpM w ws [x]
def brk (w : Nat) : List (List Nat) → List (List (List Nat))
  | [] => []
  | x :: ws => grpM w ws [x]
theorem lnsM_grp (w : Nat) : ∀ (ws g : List (List Nat)), (∀ x ∈ ws, 0 < x.length) → g ≠ [] → (∀ x ∈ g, 0 < x.length) → lnsM w ws (jn g) = (grpM w ws g).map jn
  | [], g, _, _, _ => rfl
  | x :: ws, g, hw, hg, hgw => by
    have hx := hw x (List.mem_cons_self ..)
    have hw' := fun y hy => hw y (List.mem_cons_of_mem x hy)
    have e1 : (jn g).isEmpty = false := by
      have := jn_ne hg hgw
      cases h : jn g with
      | nil => exact absurd h this
      | cons a b => rfl
    show (if (jn g).isEmpty = true then _ else _) = _
    rw [e1, if_neg (by decide)]
    show _ = (if (jn g).length + 1 + x.length ≤ w then grpM w ws (g ++ [x]) else g :: grpM w ws [x]).map jn
    by_cases h : (jn g).length + 1 + x.length ≤ w
    · rw [if_pos h, if_pos h, ← jn_snoc g x hg]
      refine lnsM_grp w ws _ hw' (by simp) fun y hy => ?_
      rcases List.mem_append.mp hy with h | h
      · exact hgw y h
      · rw [List.mem_singleton.mp h]; exact hx
    · rw [if_neg h, if_neg h, List.map_cons]
      have := lnsM_grp w ws [x] hw' (by simp) fun y hy => by rw [List.mem_singleton.mp hy]; exact hx
      rw [← this]; rfl
/-- the lines of a part: of its words, or one without signs -/
def lineG (w : Nat) (ws : List (List Nat)) : List (List Nat) := if ws.isEmpty then [[]] else (brk w ws).map jn
theorem lines_grp (w : Nat) (p : List Nat) : linesL w p = lineG w (wordsL p) := by
  unfold linesL lineG
  have hp : ∀ x ∈ wordsL p, 0 < x.length := fun x h => words_pos h
  generalize wordsL p = ws at hp
  cases ws with
  | nil => rfl
  | cons x ws =>
    have hx := hp x (List.mem_cons_self ..)
    show lnsM w ws x = (grpM w ws [x]).map jn
    rw [← lnsM_grp w ws [x] (fun y hy => hp y (List.mem_cons_of_mem _ hy)) (by simp) fun y hy => by rw [List.mem_singleton.mp hy]; exact hx]
    rfl
theorem grpM_more (w : Nat) : ∀ (ws g : List (List Nat)), g ≠ [] → grpM w ws g = (g ++ ws.take (moreN w (jn g).length ws)) :: brk w (ws.drop (moreN w (jn g).length ws))
  | [], g, _ => by show [g] = (g ++ []) :: []; rw [List.append_nil]
  | x :: ws, g, hg => by
    show (if (jn g).length + 1 + x.length ≤ w then grpM w ws (g ++ [x]) else g :: grpM w ws [x]) = (g ++ (x :: ws).take (if (jn g).length + 1 + x.length ≤ w then moreN w ((jn g).length + 1 + x.length) ws + 1 else 0)) :: brk w ((x :: ws).drop (if (jn g).length + 1 + x.length ≤ w then moreN w ((jn g).length + 1 + x.length) ws + 1 else 0))
    by_cases h : (jn g).length + 1 + x.length ≤ w
    · have e : (jn (g ++ [x])).length = (jn g).length + 1 + x.length := by
        rw [jn_snoc g x hg, List.length_append, List.length_cons]; omega
      rw [if_pos h, if_pos h, grpM_more w ws _ (by simp), e, List.take_succ_cons, List.drop_succ_cons, List.append_assoc]; rfl
    · rw [if_neg h, if_neg h, List.take_zero, List.drop_zero, List.append_nil]; rfl
theorem brk_cons (w : Nat) {ws : List (List Nat)} (h : ws ≠ []) : brk w ws = ws.take (fitN w ws) :: brk w (ws.drop (fitN w ws)) := by
  cases ws with
  | nil => exact absurd rfl h
  | cons x ws =>
    show grpM w ws [x] = _
    rw [grpM_more w ws [x] (by simp)]; rfl
theorem moreN_le (w : Nat) : ∀ (ws : List (List Nat)) (l : Nat), moreN w l ws ≤ ws.length
  | [], l => Nat.le_refl _
  | x :: ws, l => by
    show (if l + 1 + x.length ≤ w then moreN w (l + 1 + x.length) ws + 1 else 0) ≤ ws.length + 1
    have := moreN_le w ws (l + 1 + x.length)
    split <;> omega
theorem fitN_le (w : Nat) (ws : List (List Nat)) : fitN w ws ≤ ws.length := by
  cases ws with
  | nil => exact Nat.le_refl _
  | cons x ws => exact Nat.succ_le_succ (moreN_le w ws _)
theorem fitN_pos (w : Nat) {ws : List (List Nat)} (h : ws ≠ []) : 1 ≤ fitN w ws := by
  cases ws with
  | nil => exact absurd rfl h
  | cons x ws => exact Nat.succ_le_succ (Nat.zero_le _)
theorem take_ne {α : Type} {ws : List α} {m : Nat} (h1 : 1 ≤ m) (h : ws ≠ []) : ws.take m ≠ [] := by
  cases ws with
  | nil => exact absurd rfl h
  | cons a ws =>
    obtain ⟨k, rfl⟩ : ∃ k, m = k + 1 := ⟨m - 1, by omega⟩
    rw [List.take_succ_cons]; simp
/-- the loop: so many words stand, and so many more -/
theorem fit_step (w : Nat) {ws : List (List Nat)} {m : Nat} (h1 : 1 ≤ m) (hm : m < ws.length) : moreN w (jn (ws.take m)).length (ws.drop m) = if (jn (ws.take (m + 1))).length ≤ w then moreN w (jn (ws.take (m + 1))).length (ws.drop (m + 1)) + 1 else 0 := by
  have e1 : ws.drop m = ws[m] :: ws.drop (m + 1) := List.drop_eq_getElem_cons hm
  have e2 : ws.take (m + 1) = ws.take m ++ [ws[m]] := List.take_succ_eq_append_getElem hm
  have e3 : (jn (ws.take (m + 1))).length = (jn (ws.take m)).length + 1 + ws[m].length := by
    rw [e2, jn_snoc _ _ (take_ne h1 (by intro e; rw [e] at hm; cases hm)), List.length_append, List.length_cons]; omega
  rw [e1, e3]; rfl
theorem fit_one (w : Nat) {ws : List (List Nat)} (h : ws ≠ []) : fitN w ws = 1 + moreN w (jn (ws.take 1)).length (ws.drop 1) := by
  cases ws with
  | nil => exact absurd rfl h
  | cons x ws => show moreN w x.length ws + 1 = 1 + moreN w x.length ws; omega
theorem brk_flat (w : Nat) : ∀ (n : Nat) (ws : List (List Nat)), ws.length ≤ n → (brk w ws).flatten = ws
  | 0, ws, h => by
    have : ws = [] := List.length_eq_zero_iff.mp (by omega)
    subst this; rfl
  | n + 1, ws, h => by
    by_cases e : ws = []
    · subst e; rfl
    · have h1 := fitN_pos w e
      rw [brk_cons w e, List.flatten_cons, brk_flat w n _ (by rw [List.length_drop]; omega), List.take_append_drop]
theorem brk_words (w : Nat) (ws : List (List Nat)) : (brk w ws).flatten = ws := brk_flat w _ ws (Nat.le_refl _)
theorem brk_ne (w : Nat) : ∀ (n : Nat) (ws : List (List Nat)), ws.length ≤ n → ∀ g ∈ brk w ws, g ≠ []
  | 0, ws, h, g, hg => by
    have : ws = [] := List.length_eq_zero_iff.mp (by omega)
    subst this; cases hg
  | n + 1, ws, h, g, hg => by
    by_cases e : ws = []
    · subst e; cases hg
    · have h1 := fitN_pos w e
      rw [brk_cons w e] at hg
      rcases List.mem_cons.mp hg with rfl | hg
      · exact take_ne h1 e
      · exact brk_ne w n _ (by rw [List.length_drop]; omega) g hg
theorem brk_len (w : Nat) : ∀ (n : Nat) (ws : List (List Nat)), ws.length ≤ n → (brk w ws).length ≤ ws.length
  | 0, ws, h => by
    have : ws = [] := List.length_eq_zero_iff.mp (by omega)
    subst this; exact Nat.le_refl _
  | n + 1, ws, h => by
    by_cases e : ws = []
    · subst e; exact Nat.le_refl _
    · have h1 := fitN_pos w e
      have hl := List.length_pos_iff.mpr e
      have ih := brk_len w n (ws.drop (fitN w ws)) (by rw [List.length_drop]; omega)
      rw [brk_cons w e, List.length_cons]
      rw [List.length_drop] at ih
      have := fitN_le w ws
      omega
theorem lineG_len (w : Nat) (ws : List (List Nat)) : (lineG w ws).length ≤ ws.length + 1 := by
  unfold lineG
  split
  · exact Nat.succ_le_succ (Nat.zero_le _)
  · rw [List.length_map]
    have := brk_len w _ ws (Nat.le_refl _)
    omega
theorem linesL_len (w : Nat) (p : List Nat) : (linesL w p).length ≤ p.length + 1 := by
  rw [lines_grp]
  have := lineG_len w (wordsL p)
  have := words_count p
  omega
/-! #### the loop's bounds -/
theorem lnsM_len (w : Nat) : ∀ (ws : List (List Nat)) (line : List Nat), (lnsM w ws line).length ≤ ws.length + 1
  | [], _ => Nat.le_refl _
  | x :: ws, line => by
    show (if line.isEmpty = true then lnsM w ws x else if line.length + 1 + x.length ≤ w then lnsM w ws (line ++ 32 :: x) else line :: lnsM w ws x).length ≤ ws.length + 1 + 1
    split
    · have := lnsM_len w ws x; omega
    · split
      · have := lnsM_len w ws (line ++ 32 :: x); omega
      · have := lnsM_len w ws x
        rw [List.length_cons]; omega
theorem wrapL_len (w : Nat) (x : List Nat) : (wrapL w x).length ≤ 2 * x.length + 1 := by
  unfold wrapL
  have key : ∀ l : List (List Nat), (l.flatMap (linesL w)).length ≤ (l.map List.length).sum + l.length := by
    intro l
    induction l with
    | nil => exact Nat.le_refl _
    | cons p l ih =>
      rw [List.flatMap_cons, List.length_append, List.map_cons, List.sum_cons, List.length_cons]
      have := linesL_len w p
      omega
  have h1 := key (cut 10 x)
  have h2 := cut_sum 10 x
  have h3 := cut_len 10 x
  omega
/-! #### the words of each part, sign by sign -/
def wdsM : List (List Nat) → List Nat → List Nat → List (List (List Nat))
  | cur, _, [] => [cur]
  | cur, wd, c :: t => if c = 32 ∨ c = 10 then (if c = 10 then (if wd.isEmpty then cur else cur ++ [wd]) :: wdsM [] [] t else wdsM (if wd.isEmpty then cur else cur ++ [wd]) [] t) else wdsM cur (wd ++ [c]) t
def wordsF (wd p : List Nat) : List (List Nat) := (match cut 32 p with
  | [] => []
  | h :: ts => (wd ++ h) :: ts).filter (!·.isEmpty)
theorem wordsF_nil (p : List Nat) : wordsF [] p = wordsL p := by
  unfold wordsF wordsL
  obtain ⟨h, ts, e⟩ := cut_ne 32 p
  rw [e]; rfl
theorem wordsF_end (wd : List Nat) : wordsF wd [] = if wd.isEmpty then [] else [wd] := by
  show ([wd ++ []].filter (!·.isEmpty)) = _
  rw [List.append_nil]
  cases wd <;> rfl
theorem wordsF_blank (wd p : List Nat) : wordsF wd (32 :: p) = (if wd.isEmpty then [] else [wd]) ++ wordsL p := by
  unfold wordsF
  rw [cut_hit]
  show ((wd ++ []) :: cut 32 p).filter (!·.isEmpty) = _
  rw [List.append_nil]
  cases wd <;> rfl
theorem wordsF_sign {c : Nat} (wd p : List Nat) (h : c ≠ 32) : wordsF wd (c :: p) = wordsF (wd ++ [c]) p := by
  unfold wordsF
  obtain ⟨q, ts, e⟩ := cut_ne 32 p
  rw [cut_miss h e, e]
  simp
theorem wdsM_cut : ∀ (x : List Nat) (cur : List (List Nat)) (wd : List Nat) (p : List Nat) (ps : List (List Nat)), cut 10 x = p :: ps → wdsM cur wd (x ++ [10]) = (cur ++ wordsF wd p) :: (ps.map wordsL ++ [[]])
  | [], cur, wd, p, ps, e => by
    cases e
    rw [wordsF_end]
    show (if wd.isEmpty then cur else cur ++ [wd]) :: [[]] = _
    cases wd <;> simp
  | c :: t, cur, wd, p, ps, e => by
    obtain ⟨p', ps', e'⟩ := cut_ne 10 t
    by_cases h : c = 10
    · subst h
      rw [cut_hit, e'] at e
      cases e
      rw [wordsF_end]
      show (if wd.isEmpty then cur else cur ++ [wd]) :: wdsM [] [] (t ++ [10]) = _
      rw [wdsM_cut t [] [] p' ps' e', wordsF_nil]
      cases wd <;> simp
    · rw [cut_miss h e'] at e
      cases e
      by_cases hb : c = 32
      · subst hb
        show wdsM (if wd.isEmpty then cur else cur ++ [wd]) [] (t ++ [10]) = _
        rw [wdsM_cut t _ [] p' ps e', wordsF_nil, wordsF_blank]
        cases wd <;> simp
      · show (if c = 32 ∨ c = 10 then _ else wdsM cur (wd ++ [c]) (t ++ [10])) = _
        rw [if_neg (by simp [h, hb]), wdsM_cut t cur _ p' ps e', wordsF_sign _ _ hb]
theorem wdsM_all (x : List Nat) : wdsM [] [] (x ++ [10]) = (cut 10 x).map wordsL ++ [[]] := by
  obtain ⟨p, ps, e⟩ := cut_ne 10 x
  rw [wdsM_cut x [] [] p ps e, e, wordsF_nil]; rfl
theorem wdsM_feed {cur : List (List Nat)} {wd t : List Nat} : wdsM cur wd (10 :: t) = (if wd.isEmpty then cur else cur ++ [wd]) :: wdsM [] [] t := rfl
theorem wdsM_blank {cur : List (List Nat)} {wd t : List Nat} : wdsM cur wd (32 :: t) = wdsM (if wd.isEmpty then cur else cur ++ [wd]) [] t := rfl
theorem wdsM_sign {cur : List (List Nat)} {wd t : List Nat} {c : Nat} (h : ¬ (c = 32 ∨ c = 10)) : wdsM cur wd (c :: t) = wdsM cur (wd ++ [c]) t := by
  show (if c = 32 ∨ c = 10 then _ else _) = _
  rw [if_neg h]
/-- a list of words, of lists of words -/
abbrev txV (l : List Nat) : V := .str (sO l)
def WdsAt (H : Hp) (v : V) (ws : List (List Nat)) : Prop := ∃ a, v = .ref a ∧ H a = some (.lst (ws.map txV))
def PtsAt (H : Hp) (p : Addr) (ps : List (List (List Nat))) : Prop := ∃ vs : List V, H p = some (.lst vs) ∧ vs.length = ps.length ∧ ∀ (i : Nat) (v : V) (w : List (List Nat)), vs[i]? = some v → ps[i]? = some w → WdsAt H v w
theorem WdsAt.same {H H' : Hp} {v : V} {ws : List (List Nat)} (h : WdsAt H v ws) (s : Same H H') : WdsAt H' v ws := let ⟨a, e, g⟩ := h; ⟨a, e, s _ _ g⟩
theorem PtsAt.same {H H' : Hp} {p : Addr} {ps : List (List (List Nat))} (h : PtsAt H p ps) (s : Same H H') : PtsAt H' p ps := let ⟨vs, g, l, k⟩ := h; ⟨vs, s _ _ g, l, fun i v w a b => (k i v w a b).same s⟩
/-- .. that stand apart from the source -/
theorem WdsAt.dr {H H' : Hp} {a : Addr} {v : V} {ws : List (List Nat)} (h : WdsAt H v ws) (hs : Src H a) (d : Dr a H H') : WdsAt H' v ws := by
  obtain ⟨b, e, g⟩ := h
  refine ⟨b, e, d.app ?_ g⟩
  rintro rfl
  obtain ⟨s, hs⟩ := hs
  rw [g] at hs
  cases ws with
  | nil => cases hs
  | cons w ws => cases hs
theorem PtsAt.dr {H H' : Hp} {a p : Addr} {ps : List (List (List Nat))} (h : PtsAt H p ps) (hs : Src H a) (d : Dr a H H') : PtsAt H' p ps := by
  obtain ⟨vs, g, l, k⟩ := h
  refine ⟨vs, d.app ?_ g, l, fun i v w e1 e2 => (k i v w e1 e2).dr hs d⟩
  rintro rfl
  obtain ⟨s, hs⟩ := hs
  rw [g] at hs
  cases hs
  cases ps with
  | nil => cases l
  | cons w ps =>
    obtain ⟨b, e, _⟩ := k 0 _ w rfl rfl
    cases e
theorem take_sum (ws : List (List Nat)) (m : Nat) : ((ws.take m).map List.length).sum + (ws.take m).length ≤ (ws.map List.length).sum + ws.length := by
  conv => rhs; rw [← List.take_append_drop m ws]
  rw [List.map_append, List.sum_append, List.length_append]; omega
theorem jn_take_len (ws : List (List Nat)) (m : Nat) : (jn (ws.take m)).length ≤ (ws.map List.length).sum + ws.length := by
  have := take_sum ws m
  show (TL.joinL [32] (ws.take m)).length ≤ _
  rw [joinL_len]; omega
theorem PtsAt.pairs {H : Hp} {p : Addr} {ps : List (List (List Nat))} (h : PtsAt H p ps) : ∃ ys : List (V × List (List Nat)), H p = some (.lst (ys.map Prod.fst)) ∧ ys.map Prod.snd = ps ∧ ∀ y ∈ ys, WdsAt H y.1 y.2 := by
  obtain ⟨vs, g, l, k⟩ := h
  refine ⟨vs.zip ps, by rw [g, List.map_fst_zip (by omega)], List.map_snd_zip (by omega), fun y hy => ?_⟩
  obtain ⟨i, hi, e⟩ := List.getElem_of_mem hy
  rw [List.length_zip] at hi
  have e2 := List.getElem_zip (l := vs) (l' := ps) (i := i) (h := by rw [List.length_zip]; exact hi)
  rw [e] at e2
  rw [e2]
  exact k i _ _ (List.getElem?_eq_getElem (by omega)) (List.getElem?_eq_getElem (by omega))
theorem drop_sum (ws : List (List Nat)) (m : Nat) : ((ws.drop m).map List.length).sum + (ws.drop m).length ≤ (ws.map List.length).sum + ws.length := by
  conv => rhs; rw [← List.take_append_drop m ws]
  rw [List.map_append, List.sum_append, List.length_append]; omega
theorem max0_of {l : List Nat} {m : Int} (h : m ∈ (0 :: l).map Int.ofNat) (g : ∀ y ∈ (0 :: l).map Int.ofNat, y ≤ m) : m = ((maxN l : Nat) : Int) := by
  rw [maxN_of h g]
  show ((max 0 (maxN l) : Nat) : Int) = _
  rw [Nat.zero_max]
theorem lens_V (ws : List (List Nat)) : [V.int 0] ++ ws.map (fun y => V.int (y.length : Nat)) = ((0 :: ws.map List.length).map Int.ofNat).map V.int := by
  rw [List.map_cons, List.map_cons, List.map_map, List.map_map]; rfl
theorem lineG_pos (w : Nat) (ws : List (List Nat)) : 1 ≤ (lineG w ws).length := by
  unfold lineG
  split
  · exact Nat.le_refl _
  · rename_i h
    have h : ws ≠ [] := fun e => h (by rw [e]; rfl)
    rw [brk_cons w h, List.map_cons, List.length_cons]; exact Nat.succ_le_succ (Nat.zero_le _)
/-- the parts of a text, and its words -/
theorem parts_ok {l : List Nat} {m : Nat} (h : l.length ≤ m) : (cut 10 l).map wordsL ≠ [] ∧ ((cut 10 l).map wordsL).length ≤ m + 1 ∧ ∀ ws ∈ (cut 10 l).map wordsL, (ws.map List.length).sum + ws.length ≤ 2 * m := by
  obtain ⟨p, ps, e⟩ := cut_ne 10 l
  refine ⟨by rw [e]; simp, by rw [List.length_map]; have := cut_len 10 l; omega, fun ws hw => ?_⟩
  obtain ⟨p, hp, rfl⟩ := List.mem_map.mp hw
  have h1 := part_len hp
  have h2 := words_sum p
  have h3 := words_count p
  omega
theorem flat_at {α β : Type} (f : α → List β) {l : List α} {i : Nat} {y : α} (h : l[i]? = some y) : l.flatMap f = (l.take i).flatMap f ++ (f y ++ (l.drop (i + 1)).flatMap f) := by
  have hi := (List.getElem?_eq_some_iff.mp h).1
  conv => lhs; rw [← List.take_append_drop i l, List.flatMap_append, List.drop_eq_getElem_cons hi, List.flatMap_cons, (List.getElem?_eq_some_iff.mp h).2]
theorem flat_take_succ {α β : Type} (f : α → List β) {l : List α} {i : Nat} {y : α} (h : l[i]? = some y) : (l.take (i + 1)).flatMap f = (l.take i).flatMap f ++ f y := by
  rw [List.take_add_one, h, List.flatMap_append]; simp
theorem tx_ne {H : Hp} {a b : Addr} {ws : List (List Nat)} (h : H b = some (.lst (ws.map txV))) (hs : Src H a) : b ≠ a := by
  rintro rfl
  obtain ⟨s, hs⟩ := hs
  rw [h] at hs
  cases ws with
  | nil => cases hs
  | cons w ws => cases hs
end My

/-! ### == and != of lists of texts; a comprehension within one -/
namespace My
open PySem PySem.Spec PyProof.Rows L2
def rEqTx (K : PySem.W.Frag) : R2 := fun x y H Q => ∃ (a b : Addr) (xs ys : List (List Nat)), x = .ref a ∧ y = .ref b ∧ SqL K H a (xs.map txV) ∧ SqL K H b (ys.map txV) ∧ Q (.bl (decide (xs = ys))) H
def rNeTx (K : PySem.W.Frag) : R2 := fun x y H Q => ∃ (a b : Addr) (xs ys : List (List Nat)), x = .ref a ∧ y = .ref b ∧ SqL K H a (xs.map txV) ∧ SqL K H b (ys.map txV) ∧ Q (.bl (!decide (xs = ys))) H
theorem eqV_tx (a b : List Nat) : eqV (txV a) (txV b) = decide (a = b) := by
  show (sO a == sO b) = decide (a = b)
  rw [Bool.eq_iff_iff, beq_iff_eq, decide_eq_true_iff]
  exact ⟨fun h => by simpa [sO] using h, fun h => by rw [h]⟩
theorem tx_all {A : Around} {s : Shared} : ∀ {xs ys : List (List Nat)} {us ws : List Value}, Vals (xs.map txV) us → Vals (ys.map txV) ws → ∀ j (h1 : j < us.length) (h2 : j < ws.length), SeqAt.EqAt A s us[j] ws[j] (decide (xs[j]? = ys[j]?))
  | [], _, _, _, .nil, _, j, h1, _ => absurd h1 (Nat.not_lt_zero j)
  | _ :: _, [], _, _, .cons _ _, .nil, j, _, h2 => absurd h2 (Nat.not_lt_zero j)
  | x :: xs, y :: ys, _, _, .cons a1 b1, .cons a2 b2, 0, _, _ => by
    have := eqAt_V (A := A) (s := s) a1 a2 rfl rfl
    rw [eqV_tx] at this
    rw [show decide ((x :: xs)[0]? = (y :: ys)[0]?) = decide (x = y) from by
      rw [List.getElem?_cons_zero, List.getElem?_cons_zero]; exact decide_eq_decide.mpr ⟨fun e => Option.some.inj e, fun e => by rw [e]⟩]
    exact this
  | x :: xs, y :: ys, _, _, .cons a1 b1, .cons a2 b2, j + 1, h1, h2 => by
    have := tx_all (A := A) (s := s) b1 b2 j (Nat.lt_of_succ_lt_succ h1) (Nat.lt_of_succ_lt_succ h2)
    simpa using this
theorem all_dec {xs ys : List (List Nat)} (h : xs.length = ys.length) : ((List.range xs.length).all fun j => decide (xs[j]? = ys[j]?)) = decide (xs = ys) := by
  rw [Bool.eq_iff_iff, List.all_eq_true, decide_eq_true_iff]
  refine ⟨fun k => List.ext_getElem? fun j => ?_, fun e j _ => by rw [e]; exact decide_eq_true rfl⟩
  by_cases hj : j < xs.length
  · exact of_decide_eq_true (k j (List.mem_range.mpr hj))
  · rw [List.getElem?_eq_none (by omega), List.getElem?_eq_none (by omega)]
theorem op_eqTx {X : Cx} (hu : X.A.units + 64 < cLine) : OpR X (compareOp .Eq) (rEqTx X.K) := by
  intro pins s σ H x y v u Q I rx ry h
  obtain ⟨a, b, xs, ys, rfl, rfl, ha, hb, q⟩ := h
  cases (show v = Value.ref a from rx)
  cases (show u = Value.ref b from ry)
  obtain ⟨us, r1, p1, _⟩ := I.list ha
  obtain ⟨ws, r2, p2, _⟩ := I.list hb
  have l1 := r1.length
  have l2 := r2.length
  rw [List.length_map] at l1 l2
  by_cases hl : xs.length = ys.length
  · have hsz : us.toArray.size = ws.toArray.size := by
      rw [List.size_toArray, List.size_toArray]; omega
    have k := SeqAt.RcAt.lists (A := X.A) (e := fun j => decide (xs[j]? = ys[j]?)) p1.isList p2.isList hsz (show X.A.units < cLine by omega) (fun j h1 h2 => by
      have := tx_all (A := X.A.in1) (s := s) r1 r2 j (by simpa using h1) (by simpa using h2)
      simpa using this)
    rw [List.size_toArray, show us.length = xs.length from by omega, all_dec hl] at k
    exact k _ _ _ _ ⟨.bl _, H, I, rfl, q⟩
  · have k := SeqAt.RcAt.lists_lengths (A := X.A) p1.isList p2.isList (show (us.toArray.size != ws.toArray.size) = true by simp; omega) (show X.A.units < cLine by omega)
    rw [decide_eq_false (fun e => hl (by rw [e]))] at q
    exact k _ _ _ _ ⟨.bl false, H, I, rfl, q⟩
theorem op_neTx {X : Cx} (hu : X.A.units + 64 < cLine) : OpR X (compareOp .NotEq) (rNeTx X.K) := by
  intro pins s σ H x y v u Q I rx ry h
  obtain ⟨a, b, xs, ys, rfl, rfl, ha, hb, q⟩ := h
  cases (show v = Value.ref a from rx)
  cases (show u = Value.ref b from ry)
  obtain ⟨us, r1, p1, _⟩ := I.list ha
  obtain ⟨ws, r2, p2, _⟩ := I.list hb
  have l1 := r1.length
  have l2 := r2.length
  rw [List.length_map] at l1 l2
  by_cases hl : xs.length = ys.length
  · have hsz : us.toArray.size = ws.toArray.size := by
      rw [List.size_toArray, List.size_toArray]; omega
    have k := SeqAt.RcNeAt.lists (A := X.A) (e := fun j => decide (xs[j]? = ys[j]?)) p1.isList p2.isList hsz (show X.A.units < cLine by omega) (fun j h1 h2 => by
      have := tx_all (A := X.A.in1) (s := s) r1 r2 j (by simpa using h1) (by simpa using h2)
      simpa using this)
    rw [List.size_toArray, show us.length = xs.length from by omega, all_dec hl] at k
    exact k _ _ _ _ ⟨.bl _, H, I, rfl, q⟩
  · have k := SeqAt.RcNeAt.lists_lengths (A := X.A) p1.isList p2.isList (show (us.toArray.size != ws.toArray.size) = true by simp; omega) (show X.A.units < cLine by omega)
    rw [decide_eq_false (fun e => hl (by rw [e]))] at q
    exact k _ _ _ _ ⟨.bl true, H, I, rfl, q⟩
theorem op_eqTxK {X : Cx} {K : PySem.W.Frag} (hu : X.A.units + 64 < cLine) (h : X.K = K) : OpR X (compareOp .Eq) (rEqTx K) := by subst h; exact op_eqTx hu
theorem op_neTxK {X : Cx} {K : PySem.W.Frag} (hu : X.A.units + 64 < cLine) (h : X.K = K) : OpR X (compareOp .NotEq) (rNeTx K) := by subst h; exact op_neTx hu
/-- a block within a block: its scope hands nothing on -/
theorem blkOk_any {N : List Str} {sc scope : Scope} {own : List (Str × Nat)} (h : blkC N { kind := .function, names := [], isGenerator := false, isCoroutine := false } scope own = true) : BlkOk N sc scope own := by
  have b := blkOk_by h
  exact ⟨b.kind, b.uniq, b.ix, fun y hy e => (b.free y hy e).elim (fun z => by cases z) (fun z => by cases z), b.own⟩
end My

/-! ### own errors -/
namespace My
open PySem PySem.Spec PyProof.Rows L2
structure Ex (K : PySem.W.Frag) (mg : Str → Option Value) (x : Str) where
  C : Addr
  g : mg x = some (.ref C)
  x : PySem.W.excIn K C [.type "ValueError", .type "Exception", .type "BaseException", .type "object"] "ValueError.__new__" = true
  k : PySem.W.keepIn K (.ref C) = true
  b : PySem.W.subIn K (.ref C) (.type "BaseException") = some true
  t : PySem.W.typeIn K (.ref C) = some (.type "type")
  E : ExcC K C
def ex_mk {K : PySem.W.Frag} {mg : Str → Option Value} {x : Str} {h : Heap} (X : K.In h) (G : h.Ns mainGlobals mg) {C : Addr} (g : PySem.W.nsIn K mainGlobals x = some (some (.ref C)))
    (x1 : PySem.W.excIn K C [.type "ValueError", .type "Exception", .type "BaseException", .type "object"] "ValueError.__new__" = true) (x2 : PySem.W.keepIn K (.ref C) = true) (x3 : PySem.W.subIn K (.ref C) (.type "BaseException") = some true) (x4 : PySem.W.typeIn K (.ref C) = some (.type "type"))
    (y1 : PySem.W.findIn K (.ref C) "__getattribute__" = some (some (.builtin "BaseException.__getattribute__"))) (y2 : PySem.W.findIn K (.ref C) "__getattr__" = some none) (y3 : PySem.W.hasDictIn K C = true) (y4 : PySem.W.findIn K (.ref C) "__class__" = some (some (.builtin "object.__class__")))
    (y5 : PySem.W.specialIn K (.builtin "object.__class__") "__get__" = some (some (.builtin "getset_descriptor.__get__"))) (y6 : PySem.W.takesIn K (.builtin "object.__class__") = some true) (y7 : PySem.W.mroIn K C (.type "object") = some true) : Ex K mg x :=
  ⟨C, PySem.W.mg_of X G g, x1, x2, x3, x4, ⟨y1, y2, x3, y3, y4, y5, y6, y7⟩⟩
section
variable {K : PySem.W.Frag} {mg : Str → Option Value} {x y : Str} {cv : Value} {b : Bool}
theorem Ex.exm (e : Ex K mg x) (h : PySem.W.subIn K cv (.ref e.C) = some b) : PySem.W.exmOne K cv (.ref e.C) = some b := PySem.W.exm_ref e.b e.E.hd e.t h
theorem Ex.kcls (e : Ex K mg x) (h : PySem.W.subIn K cv (.ref e.C) = some b) : PySem.W.kitCls K cv (.ref e.C) = some b := by
  have hc : (PySem.W.clsIn K e.C).isSome = true := by
    have := e.E.hd
    unfold PySem.W.hasDictIn at this
    cases q : PySem.W.clsIn K e.C with
    | none => rw [q] at this; cases this
    | some c => rfl
  have e2 : ((PySem.W.clsIn K e.C).isSome && PySem.W.typeIn K (.ref e.C) == some (.type "type")) = true := by rw [hc, e.t] <;> rfl
  show (if ((PySem.W.clsIn K e.C).isSome && PySem.W.typeIn K (.ref e.C) == some (.type "type")) = true then PySem.W.subIn K cv (.ref e.C) else none) = some b
  rw [if_pos e2]
  exact h
/-- isinstance of an error's class: by the chains of the two classes -/
theorem Ex.kit (d : Ex K mg y) (e : Ex K mg x) (s : PySem.W.subIn K (.ref d.C) (.ref d.C) = some true) (h : PySem.W.subIn K (.ref d.C) (.ref e.C) = some b) : PySem.W.kitOne K (.ref d.C) (.ref e.C) = some b := by
  unfold PySem.W.kitOne
  split
  · next q =>
    have z : (Value.ref d.C) = .ref e.C := beq_iff_eq.mp q
    rw [← z, s] at h
    cases h
    rfl
  · exact e.kcls h
theorem Ex.kitT (d : Ex K mg y) {n : String} (h : PySem.W.subIn K (.ref d.C) (.type n) = some b) (m : PySem.W.kitMeta n = true := by decide +kernel) : PySem.W.kitOne K (.ref d.C) (.type n) = some b := by
  unfold PySem.W.kitOne
  split
  · next q =>
    have z : (Value.ref d.C) = .type n := beq_iff_eq.mp q
    cases z
  · show (if PySem.W.kitMeta n = true then PySem.W.subIn K (.ref d.C) (.type n) else none) = some b
    rw [if_pos m]
    exact h
end
/-- an error class that is only asked about -/
structure Ec (K : PySem.W.Frag) (mg : Str → Option Value) (x : Str) where
  C : Addr
  g : mg x = some (.ref C)
  t : PySem.W.typeIn K (.ref C) = some (.type "type")
  d : PySem.W.hasDictIn K C = true
def ec_mk {K : PySem.W.Frag} {mg : Str → Option Value} {x : Str} {h : Heap} (X : K.In h) (G : h.Ns mainGlobals mg) {C : Addr} (g : PySem.W.nsIn K mainGlobals x = some (some (.ref C)))
    (x1 : PySem.W.typeIn K (.ref C) = some (.type "type")) (x2 : PySem.W.hasDictIn K C = true) : Ec K mg x := ⟨C, PySem.W.mg_of X G g, x1, x2⟩
theorem Ex.kitC {K : PySem.W.Frag} {mg : Str → Option Value} {x y : Str} {b : Bool} (d : Ex K mg y) (e : Ec K mg x) (s : PySem.W.subIn K (.ref d.C) (.ref d.C) = some true) (h : PySem.W.subIn K (.ref d.C) (.ref e.C) = some b) : PySem.W.kitOne K (.ref d.C) (.ref e.C) = some b := by
  unfold PySem.W.kitOne
  split
  · next q =>
    have z : (Value.ref d.C) = .ref e.C := beq_iff_eq.mp q
    rw [← z, s] at h
    cases h
    rfl
  · have hc : (PySem.W.clsIn K e.C).isSome = true := by
      have := e.d
      unfold PySem.W.hasDictIn at this
      cases q : PySem.W.clsIn K e.C with
      | none => rw [q] at this; cases this
      | some c => rfl
    have e2 : ((PySem.W.clsIn K e.C).isSome && PySem.W.typeIn K (.ref e.C) == some (.type "type")) = true := by rw [hc, e.t] <;> rfl
    show (if ((PySem.W.clsIn K e.C).isSome && PySem.W.typeIn K (.ref e.C) == some (.type "type")) = true then PySem.W.subIn K (.ref d.C) (.ref e.C) else none) = some b
    rw [if_pos e2]
    exact h
/-- isinstance(e, c) in a suite, the error's class told in the reading -/
def rIsX (K : PySem.W.Frag) (cls : Value) (d : Option Addr) (a : Addr) : List V → Hp → VK → Prop := fun xs H Q => ∃ (D : Addr) (c : V) (cv : Value) (b : Bool), cls = .ref D ∧ d = none ∧ ExcC K D ∧ xs = [.ref a, c] ∧ (∀ u, RelV c u → u = cv) ∧ PySem.W.kitOne K (.ref D) cv = some b ∧ Q (.bl b) H
theorem call_isX {X : Cx} {a : Addr} {cls : Value} {d : Option Addr} {oe : Obj} {pn : List (Addr × Obj)} (hz : Zc cls d oe) (hf : ∃ vs, oe.data = .fields vs) : CallR (X.suite a ((a, oe) :: pn)) (.builtin "isinstance") (rIsX X.K cls d a) := by
  intro pins s σ H xs us Q I r h
  obtain ⟨D, c, cv, b, rfl, rfl, C, e, hc, hk, q⟩ := h
  exact call_isE C hz hf pins s σ H xs us Q I r ⟨c, cv, b, e, hc, hk, q⟩
section
variable {X : Cx}
/-- [..].count(x), of flat ones -/
def rCntF (K : PySem.W.Frag) : V → List V → Hp → VK → Prop := fun x xs H Q => ∃ (a : Addr) (ys : List V) (y : V), x = .ref a ∧ xs = [y] ∧ SqL K H a ys ∧ flatV y = true ∧ ys.all flatV = true ∧ Q (.int (ys.countP (fun z => eqV z y) : Nat)) H
theorem cnt_flat {y : V} : ∀ {us : List Value} {ys : List V}, Vals ys us → ys.all flatV = true → us.countP (eqU y) = ys.countP (fun z => eqV z y)
  | _, _, .nil, _ => rfl
  | _, _, .cons r t, f => by
    rw [List.all_cons, Bool.and_eq_true] at f
    rw [List.countP_cons, List.countP_cons, cnt_flat t f.2, eqU_of r f.1]
theorem mt_countF : MtR X "list.count" (rCntF X.K) := by
  intro pins s σ H x xs v us Q I rx rxs h
  obtain ⟨a, ys, y, rfl, rfl, hs, fy, fys, q⟩ := h
  cases rx
  cases rxs with
  | cons ry rt =>
    rename_i uy ut
    cases rt
    obtain ⟨its, rv, ⟨⟨cls, dd, data, sl⟩, n, ho, hc, hdn, hd⟩, hlen⟩ := I.list hs
    simp only at hc hd
    subst hc hd
    refine call_meets PySem.F.slot_list_count ⟨_, ho, rfl⟩ PySem.F.entry_list_count (PySem.F.args_list_count_2 _ _)
      (SeqAt.list_countAt a its.toArray n dd sl uy (eqU y)) ⟨ho, fun u' hu' => mem_eqAt ry fy rv fys u' (by simpa using hu'), ?_⟩
    refine ⟨.int (ys.countP (fun z => eqV z y) : Nat), H, I.tok _, ⟨s.toks, ?_⟩, q⟩
    show Value.int ((its.toArray.toList.countP (eqU y) : Nat) : Int) s.toks = Value.int ((ys.countP (fun z => eqV z y) : Nat) : Int) s.toks
    rw [show its.toArray.toList = its from rfl, cnt_flat rv fys]
theorem mt_countFK {K : PySem.W.Frag} (h : X.K = K) : MtR X "list.count" (rCntF K) := by subst h; exact mt_countF
theorem mt_indexK {K : PySem.W.Frag} (h : X.K = K) : MtR X "list.index" (L2.rIndex K) := by subst h; exact mt_index
theorem pe_bmK {K : PySem.W.Frag} {T name id : String} {r : V → List V → Hp → VK → Prop} {o e : Expr} {es : List Expr} {to : TE} {t : TA} {apos cpos : Pos} (h : X.K = K) (pa : PlainAttrs T) (slot : Slot T name id) (hty : typeOf (.builtin id) = pure (.type "method_descriptor")) (hm : MtR X id r) (ho : PE X o to) (ha : PA X (e :: es) t)
    (hbase : attributeBase o name X.env (eval o X.env) = eval o X.env := by rfl)
    (hfew : ((backTo cpos (starEach (e :: es) X.env)).all (fun x => !x.1) && (backToKw cpos (keywordEach [] X.env)).all (fun x => x.1.isSome)
      && decide ((e :: es).length + ([] : List Keyword).length + (if ([] : List Keyword).isEmpty then 0 else 1) < 30)) = true := by rfl)
    (hline : (apos.endLine == cpos.line) = true := by rfl) (hs : starEach (e :: es) X.env = (false, eval e X.env) :: starEach es X.env := by rfl) (hplain : (backTo cpos (starEach es X.env)).any (·.1) = false := by rfl) :
    PE X (.Call (.Attribute o name apos) (e :: es) [] cpos) (tBM K T r to t) := by
  subst h
  exact pe_bm pa slot hty hm ho ha hbase hfew hline hs hplain
theorem op_eqVK {K : PySem.W.Frag} (hu : X.A.units + 64 < cLine) (h : X.K = K) : OpR X (compareOp .Eq) (rEqV K) := by subst h; exact op_eqV hu
end
end My

/-! ### != of lists of like items: the same ones, or lists of the same ones -/
namespace My
open PySem PySem.Spec PyProof.Rows L2
def PlainQ (x : V) : Prop := flatB x = true ∨ ∃ r, x = .ref r
def EqQ (K : PySem.W.Frag) (H : Hp) (u v : V) : Prop := (u = v ∧ PlainQ u) ∨ ∃ a b zs, u = .ref a ∧ v = .ref b ∧ SqL K H a zs ∧ SqL K H b zs ∧ ∀ z ∈ zs, PlainQ z
def rNeQ (K : PySem.W.Frag) : R2 := fun x y H Q => ∃ a b xs ys, x = .ref a ∧ y = .ref b ∧ SqL K H a xs ∧ SqL K H b ys ∧ Paired (EqQ K H) xs ys ∧ Q (.bl false) H
theorem plainQ_at {A : Around} {s : Shared} {x : V} {u w : Value} (h : PlainQ x) (r : RelV x u) (r' : RelV x w) : SeqAt.EqAt A s u w true := by
  rcases h with h | ⟨a, rfl⟩
  · exact eqAt_same r r' h
  · cases (show u = Value.ref a from r)
    cases (show w = Value.ref a from r')
    exact SeqAt.EqAt.same _
theorem plainQ_all {A : Around} {s : Shared} : ∀ {xs : List V} {us ws : List Value}, (∀ x ∈ xs, PlainQ x) → Vals xs us → Vals xs ws → ∀ j (h1 : j < us.length) (h2 : j < ws.length), SeqAt.EqAt A s us[j] ws[j] true
  | _, _, _, _, .nil, .nil, j, h1, _ => absurd h1 (Nat.not_lt_zero j)
  | _, _, _, hp, .cons a1 b1, .cons a2 b2, 0, _, _ => plainQ_at (hp _ List.mem_cons_self) a1 a2
  | _, _, _, hp, .cons a1 b1, .cons a2 b2, j + 1, h1, h2 => plainQ_all (fun y hy => hp y (List.mem_cons_of_mem _ hy)) b1 b2 j (Nat.lt_of_succ_lt_succ h1) (Nat.lt_of_succ_lt_succ h2)
section
variable {X : Cx} {pins : List (Addr × Obj)} {σ : L2.St} {H : Hp} {s : Shared}
theorem eqQ_at (I : Inv X pins σ H s) {A : Around} (hu : A.units < cLine) {x y : V} {u w : Value} (h : EqQ X.K H x y) (r : RelV x u) (r' : RelV y w) : SeqAt.EqAt A s u w true := by
  rcases h with ⟨rfl, hp⟩ | ⟨a, b, zs, rfl, rfl, ha, hb, hp⟩
  · exact plainQ_at hp r r'
  · cases (show u = Value.ref a from r)
    cases (show w = Value.ref b from r')
    by_cases e : a = b
    · subst e; exact SeqAt.EqAt.same _
    · obtain ⟨us, r1, p1, _⟩ := I.list ha
      obtain ⟨ws, r2, p2, _⟩ := I.list hb
      have hsz : us.toArray.size = ws.toArray.size := by
        rw [List.size_toArray, List.size_toArray, ← r1.length, ← r2.length]
      refine SeqAt.EqAt.of_refs e ?_
      have k := SeqAt.RcAt.lists (e := fun _ => true) p1.isList p2.isList hsz hu (A := A) (fun j h1 h2 => by
        have := plainQ_all (A := A.in1) (s := s) hp r1 r2 j (by simpa using h1) (by simpa using h2)
        simpa using this)
      rwa [show ((List.range us.toArray.size).all fun _ => true) = true from List.all_eq_true.mpr fun _ _ => rfl] at k
theorem eqQ_all (I : Inv X pins σ H s) {A : Around} (hu : A.units < cLine) {xs ys : List V} (h : Paired (EqQ X.K H) xs ys) : ∀ {us ws : List Value}, Vals xs us → Vals ys ws → ∀ j (h1 : j < us.length) (h2 : j < ws.length), SeqAt.EqAt A s us[j] ws[j] true := by
  induction h with
  | nil =>
    intro us ws r1 r2 j h1 h2
    cases r1
    exact absurd h1 (Nat.not_lt_zero j)
  | cons h _ k =>
    intro us ws r1 r2 j h1 h2
    cases r1 with
    | cons a1 b1 =>
      cases r2 with
      | cons a2 b2 =>
        cases j with
        | zero => exact eqQ_at I hu h a1 a2
        | succ j => exact k b1 b2 j (Nat.lt_of_succ_lt_succ h1) (Nat.lt_of_succ_lt_succ h2)
end
theorem op_neQ {X : Cx} (hu : X.A.units + 64 < cLine) : OpR X (compareOp .NotEq) (rNeQ X.K) := by
  intro pins s σ H x y v u Q I rx ry h
  obtain ⟨a, b, xs, ys, rfl, rfl, ha, hb, hp, q⟩ := h
  cases (show v = Value.ref a from rx)
  cases (show u = Value.ref b from ry)
  obtain ⟨us, r1, p1, _⟩ := I.list ha
  obtain ⟨ws, r2, p2, _⟩ := I.list hb
  have hsz : us.toArray.size = ws.toArray.size := by
    rw [List.size_toArray, List.size_toArray, ← r1.length, ← r2.length]
    exact Paired.length hp
  have k := SeqAt.RcNeAt.lists (e := fun _ => true) p1.isList p2.isList hsz (show X.A.units < cLine by omega) (fun j h1 h2 => by
    have := eqQ_all I (A := X.A.in1) (show X.A.units + 1 < cLine by omega) hp r1 r2 j (by simpa using h1) (by simpa using h2)
    simpa using this)
  rw [show ((List.range us.toArray.size).all fun _ => true) = true from List.all_eq_true.mpr fun _ _ => rfl] at k
  exact k _ _ _ _ ⟨.bl false, H, I, rfl, q⟩
theorem op_neQK {X : Cx} {K : PySem.W.Frag} (hu : X.A.units + 64 < cLine) (h : X.K = K) : OpR X (compareOp .NotEq) (rNeQ K) := by subst h; exact op_neQ hu
theorem eqQ_refl {K : PySem.W.Frag} {H : Hp} : ∀ {xs : List V}, (∀ x ∈ xs, PlainQ x) → Paired (EqQ K H) xs xs
  | [], _ => .nil
  | x :: xs, h => .cons (.inl ⟨rfl, h x (List.mem_cons_self ..)⟩) (eqQ_refl fun y hy => h y (List.mem_cons_of_mem _ hy))
end My

/-! ### defs with keyword-only defaults -/
namespace My
open PySem PySem.Spec PyProof.Rows L2
structure DfK (K : PySem.W.Frag) (mg : Str → Option Value) (x : Str) (st : Stmt) (ps : List Str) (kws : List (Str × V)) where
  f : Addr
  fd : FuncData
  FD : FunD K x x (defArgs st) (defBody st) (defScope st) [] kws f fd
  bx : ∃ ds, Vals (kws.map (·.2)) ds ∧ Binds K fd ps ds
  g : mg x = some (.ref f)
section
variable {K : PySem.W.Frag} {mg : Str → Option Value} {x : Str} {st : Stmt} {ps : List Str} {kws : List (Str × V)}
theorem DfK.F (d : DfK K mg x st ps kws) : Fun K x x st d.f d.fd := by
  obtain ⟨oc, od, dV, kV, doc, pm, an, cdv, ct, osl, e, l, c, hd, _⟩ := d.FD.ex
  rcases hd with ⟨_, e2⟩ | ⟨e2, _⟩
  · subst e2
    exact ⟨⟨oc, od, kV, doc, pm, an, cdv, ct, osl, e, l, c⟩, d.FD.kp⟩
  · exact absurd rfl e2
theorem DfK.v (d : DfK K mg x st ps kws) : Vals (kws.map (·.2)) (Classical.choose d.bx) := (Classical.choose_spec d.bx).1
theorem DfK.b (d : DfK K mg x st ps kws) : Binds K d.fd ps (Classical.choose d.bx) := (Classical.choose_spec d.bx).2
def dfK_mk {h : Heap} (X : K.In h) (G : h.Ns mainGlobals mg) {f D : Addr} {oc : Value} {od an : Option Addr} {osl : Array (Option Value)} {doc pm cdv ct u : Value} {y : Str} {v : V} (n : Nat)
    (a : PySem.W.nsIn K mainGlobals x = some (some (.ref f))) (l : K.lookup f = some ⟨oc, od, .func (PySem.W.fnOf x x (defArgs st) (defBody st) (defScope st) .none (.ref D) doc pm an cdv ct), osl⟩)
    (c : PySem.W.codeIn K cdv x = true) (k : PySem.W.keepIn K (.ref f) = true) (e : PySem.W.nsIn K D y = some (some u)) (rv : RelV v u) (hn : n + 1 = ps.length)
    (hb : ∀ (D : Addr) (doc pm : Value) (an : Option Addr) (cdv ct : Value) (us ks : List Value), us.length = n → ks.length = 1 →
      KwChain D ([y].zip ks) (bindArgs (PySem.W.fnOf x x (defArgs st) (defBody st) (defScope st) .none (.ref D) doc pm an cdv ct) ⟨us, []⟩) (ps.zip (us ++ ks))) : DfK K mg x st ps [(y, v)] :=
  have F : FunD K x x (defArgs st) (defBody st) (defScope st) [] [(y, v)] f (PySem.W.fnOf x x (defArgs st) (defBody st) (defScope st) .none (.ref D) doc pm an cdv ct) := ⟨⟨oc, od, .none, .ref D, doc, pm, an, cdv, ct, osl, rfl, l, c, .inl ⟨rfl, rfl⟩, .inr ⟨D, rfl, fun q hq => by rw [List.mem_singleton.mp hq]; exact ⟨u, e, rv⟩⟩⟩, k⟩
  ⟨f, _, F, F.binds0 n (by intro z; cases z) hn hb, PySem.W.mg_of X G a⟩
end
/-! ### a call by keywords in a try's body -/
def tCallNS (n m : Nat) (sp : Sp) (gV : List V → List V → List V) (E : L2.St → XK) (t tk : TA) : TE := fun σ H Q => t σ H fun vs H1 => tk σ H1 fun zs H2 => vs.length = n ∧ zs.length = m ∧ sp (gV vs zs) H2 Q (E σ)
section
variable {X : Cx} {CX : CXT} {k n : Nat} {f : Addr} {fd : FuncData} {ps ks : List Str} {sp : Sp} {E : L2.St → XK} {x : Str} {p pos : Pos} {e : Expr} {es : List Expr} {kws : List Keyword} {t tk : TA} {g : List Value → List Value → List Value} {gV : List V → List V → List V}
theorem run_fnNS {pins : List (Addr × Obj)} {σ : L2.St} {H : Hp} {s : Shared} {Q : VK} {us ws : List Value} {vs zs : List V} (F : FnOk X.prog X.w X.K X.mg X.base CX k f fd ps sp) (hr : Room k X.A) (hb : KBn X.K fd ps n ks g gV) (hx : PassesAt CX X σ (E σ))
    (I : Inv X pins σ H s) (r : Vals vs us) (rz : Vals zs ws) (l1 : vs.length = n) (l2 : zs.length = ks.length) (h : sp (gV vs zs) H Q (E σ)) : wpAny (model X.prog X.w) X.A (call (.ref f) us (ks.zip ws)) (EP X pins σ Q) X.xe s := by
  have r2 := hb.rel r rz
  refine wpAny_call (codeAny_mono (F.run X.A X.stack s H ⟨us, ks.zip ws⟩ (g us ws) (gV vs zs) Q (E σ) hr I.env0 (hb.to s us ws I.kIn (r.length.symm.trans l1) (rz.length.symm.trans l2)) r2 h) fun r s' hq => ?_)
  cases r with
  | error e => exact hx pins H s e s' I hq
  | ok fl =>
    cases fl with
    | ret u => exact I.after hq
    | next => exact False.elim hq
    | brk => exact False.elim hq
    | cont => exact False.elim hq
theorem pe_callNS (F : FnOk X.prog X.w X.K X.mg X.base CX k f fd ps sp) (hr : Room k X.A) (hg : Gl X x) (hm : X.mg x = some (.ref f)) (hk : PySem.W.keepIn X.K (.ref f) = true) (hb : KBn X.K fd ps n ks g gV) (hx : ∀ σ, PassesAt CX X σ (E σ))
    (ha : PA X (e :: es) t) (hkw : PK X kws tk) (hall : (backToKw pos (keywordEach kws X.env)).all (·.1.isSome) = true := by rfl) (hks : (backToKw pos (keywordEach kws X.env)).filterMap (·.1) = ks := by rfl)
    (hdb : (x == ("__debug__" : Str)) = false := by decide) (he : starEach (e :: es) X.env = (false, eval e X.env) :: starEach es X.env := by rfl)
    (hpl : ((backTo pos (starEach (e :: es) X.env)).any (·.1) || (backToKw pos (keywordEach kws X.env)).any (·.1.isNone)) = false := by rfl) :
    PE X (.Call (.Name x p) (e :: es) kws pos) (tCallNS n ks.length sp gV E t tk) := by
  refine ⟨fun pins s σ H Q I h => ?_⟩
  refine wpAny_Call_Name_kw (ld_glob I hg hm ?_ hdb)
  refine PySem.W.callWith_KW (h₀ := X.base) I.ok.mod.kin hk hall (thn (ha.run pos pins s σ H _ I h) fun us s1 ⟨vs, H1, I1, r, q⟩ => ?_) hpl he
  refine thn (hkw.run pos pins s1 σ H1 _ I1 q) fun ws s2 ⟨zs, H2, I2, rz, l1, l2, q2⟩ => ⟨I2.kIn, ?_⟩
  rw [hks]
  exact run_fnNS F hr hb (hx σ) I2 r rz l1 l2 q2
end
/-- a tuple that stands ahead -/
theorem sqT_K {K : PySem.W.Frag} {a : Addr} {o : Obj} {its : Array Value} {n : Nat} {xs : List V} (l : K.lookup a = some o) (c : o.cls = .type "tuple") (d : o.data = .seq its n) (z : its.size ≤ sizeLine) (r : Vals xs its.toList) (H : Hp) : SqT K H a xs := .inr ⟨o, its, n, l, c, d, z, r⟩
theorem SqT.tyx {K : PySem.W.Frag} {H : Hp} {a : Addr} {xs : List V} (h : SqT K H a xs) : TyX K H (.ref a) (.type "tuple") := by
  rcases h with (h | ⟨o, h⟩) | ⟨o, its, n, l, c, _⟩
  · exact .base (.tup h)
  · exact .fTuple h
  · exact .kTuple l c
/-- isinstance(x, tuple), of a tuple that stands ahead, too -/
def rIsTup (K : PySem.W.Frag) : List V → Hp → VK → Prop := fun xs H Q => (∃ x t, xs = [x, .ty "tuple"] ∧ Ty7 H x t ∧ Q (.bl (decide (t = "tuple"))) H) ∨ ∃ a ys, xs = [.ref a, .ty "tuple"] ∧ SqT K H a ys ∧ Q (.bl true) H
theorem call_isTup {X : Cx} : CallR X (.builtin "isinstance") (rIsTup X.K) := by
  intro pins s σ H xs us Q I r h
  rcases h with ⟨x, t, e, h7, q⟩ | ⟨a, ys, e, hs, q⟩
  · exact is_tuple pins s σ H xs us Q I r ⟨x, t, e, h7, q⟩
  · exact call_isi pins s σ H xs us Q I r ⟨_, _, _, _, _, e, .ty _, SqT.tyx hs, kit_ty (by decide +kernel), q⟩
theorem call_isTupK {X : Cx} {K : PySem.W.Frag} (h : X.K = K) : CallR X (.builtin "isinstance") (rIsTup K) := h ▸ call_isTup
end My

/-! ### own classes whose __init__ has keyword-only defaults -/
namespace My
open PySem PySem.Spec PyProof.Rows L2 RZ
structure Cl (K : PySem.W.Frag) (mg : Str → Option Value) (x : Str) where
  C : Addr
  g : mg x = some (.ref C)
  cls : Cls K C
def cl_mk {K : PySem.W.Frag} {mg : Str → Option Value} {x : Str} {h : Heap} (X : K.In h) (G : h.Ns mainGlobals mg) {C : Addr} (a : PySem.W.nsIn K mainGlobals x = some (some (.ref C)))
    (pg : PySem.W.plainGet K C Str.empty = true) (hd : PySem.W.hasDictIn K C = true) (po : PySem.W.plainOver K C = true) (sa : PySem.W.findIn K (.ref C) "__setattr__" = some (some (.builtin "object.__setattr__"))) : Cl K mg x :=
  ⟨C, PySem.W.mg_of X G a, ⟨pg, hd, po, sa⟩⟩
inductive KwIn (K : PySem.W.Frag) (D : Addr) : List (Str × V) → Prop
  | nil : KwIn K D []
  | cons {y : Str} {v : V} {u : Value} {l : List (Str × V)} (e : PySem.W.nsIn K D y = some (some u)) (r : RelV v u) (t : KwIn K D l) : KwIn K D ((y, v) :: l)
theorem KwIn.all {K : PySem.W.Frag} {D : Addr} : ∀ {l : List (Str × V)}, KwIn K D l → ∀ q ∈ l, ∃ u, PySem.W.nsIn K D q.1 = some (some u) ∧ RelV q.2 u
  | _, .nil, q, h => by cases h
  | _, .cons e r t, q, h => by
    rcases List.mem_cons.mp h with rfl | h
    · exact ⟨_, e, r⟩
    · exact t.all q h
structure Ini (K : PySem.W.Frag) (q : Str) (st : Stmt) (C : Addr) (kws : List (Str × V)) where
  f : Addr
  fd : FuncData
  FD : FunD K "__init__" q (defArgs st) (defBody st) (defScope st) [] kws f fd
  mks : Mk K C f
theorem Ini.F {K : PySem.W.Frag} {q : Str} {st : Stmt} {C : Addr} {kws : List (Str × V)} (d : Ini K q st C kws) : Fun K "__init__" q st d.f d.fd := by
  obtain ⟨oc, od, dV, kV, doc, pm, an, cdv, ct, osl, e, l, c, hd, _⟩ := d.FD.ex
  rcases hd with ⟨_, e2⟩ | ⟨e2, _⟩
  · subst e2
    exact ⟨⟨oc, od, kV, doc, pm, an, cdv, ct, osl, e, l, c⟩, d.FD.kp⟩
  · exact absurd rfl e2
def ini_mk {K : PySem.W.Frag} {q : Str} {st : Stmt} {C : Addr} {kws : List (Str × V)} {f D : Addr} {oc : Value} {od an : Option Addr} {osl : Array (Option Value)} {doc pm cdv ct : Value}
    (i : PySem.W.findIn K (.ref C) "__init__" = some (some (.ref f))) (m : PySem.W.makesIn K C = true) (fn : PySem.W.isFn K (.ref f) = true) (kc : PySem.W.keepIn K (.ref C) = true)
    (l : K.lookup f = some ⟨oc, od, .func (PySem.W.fnOf "__init__" q (defArgs st) (defBody st) (defScope st) .none (.ref D) doc pm an cdv ct), osl⟩) (c : PySem.W.codeIn K cdv q = true) (k : PySem.W.keepIn K (.ref f) = true) (kw : KwIn K D kws) : Ini K q st C kws :=
  ⟨f, _, ⟨⟨oc, od, .none, .ref D, doc, pm, an, cdv, ct, osl, rfl, l, c, .inl ⟨rfl, rfl⟩, .inr ⟨D, rfl, kw.all⟩⟩, k⟩, ⟨m, i, fn, kc⟩⟩
/-- one of a list, as a list -/
def pick1 {α : Type} (i : Nat) (l : List α) : List α := (l.drop i).take 1
theorem vals_pick {xs : List V} {us : List Value} (r : Vals xs us) (i : Nat) : Vals (pick1 i xs) (pick1 i us) := (r.drop i).take 1
/-! #### o.f as a target among others -/
def gFld (K : PySem.W.Frag) (to : TE) (f : Str) : TG := fun y σ H Q => to σ H fun x H2 => ∃ a C dx fs, x = .ref a ∧ H2 a = some (.ins C dx fs) ∧ Cls K C ∧ NoAttr K C f ∧ fs.length < 1000 ∧ Q σ (upd H2 a (.ins C dx (putF f y fs)))
theorem pg_fld {X : Cx} {o : Expr} {f : Str} {pos : Pos} {to : TE} (ho : PE X o to) : PG X (.Attribute o f pos) (gFld X.K to f) := by
  refine ⟨fun pins s σ H v u Q I r h => ?_⟩
  rw [assign_Attribute]
  refine wpAny_bind (wpAny_holding (thn (ho.run pins s σ H _ I h) fun ov s2 ⟨x, H2, I2, rx, a, C, dx, fs, ex, ea, c, n, l, q2⟩ => ?_))
  subst ex
  obtain rfl : ov = Value.ref a := rx
  exact wpAny_bind (wpAny_standAt (wpAny_bind (wpAny_holding (setattr_ok I2 ea c n l r fun s3 I3 => wpAny_release ⟨σ, _, I3, q2⟩))))
theorem pg_fldK {X : Cx} {K : PySem.W.Frag} (h : X.K = K) {o : Expr} {f : Str} {pos : Pos} {to : TE} (ho : PE X o to) : PG X (.Attribute o f pos) (gFld K to f) := h ▸ pg_fld ho
/-! #### zip of two tuples -/
theorem pi_zipAK {X : Cx} {K : PySem.W.Frag} (h : X.K = K) {e e2 : Expr} {ta : TA} {p pos tpos : Pos} {elts : List Expr} {kk : Nat} (hg : Gl X "zip") (hm : X.mg "zip" = none) (ha : PA X [e, e2] ta)
    (he : starEach [e, e2] X.env = (false, eval e X.env) :: starEach [e2] X.env := by rfl) (hpl : (backTo pos (starEach [e2] X.env)).any (·.1) = false := by rfl) : PI X (.Tuple elts kk tpos) (.Call (.Name "zip" p) [e, e2] [] pos) (iZipA K ta) := h ▸ pi_zipA hg hm ha he hpl
section
variable {K : PySem.W.Frag} {g : TG} {tt : TT} {te : TE} {vs : List Nat} {σ : L2.St} {H1 : Hp} {D a b : Addr} {Qd : Hp → Prop} {xs zs : List V} {n : Nat}
theorem lcZT (hlen : xs.length = zs.length) (P : Nat → List V → Hp → Prop) (h0 : ∀ H', Same H1 H' → H' D = some (.lst []) → P 0 [] H') (hD : H1 D = none) (hl : ∀ i acc H, P i acc H → SqT K H a xs ∧ SqT K H b zs)
    (hs : ∀ i x z acc H T H' Kt Kf, xs[i]? = some x → zs[i]? = some z → P i acc H → H D = some (.lst acc) → H T = none → Same H H' → H' T = some (.tup [x, z]) → LcK D (P (i + 1)) acc Kt Kf → LcT g tt te vs σ (.ref T) H' Kt Kf)
    (hd : ∀ acc H, P xs.length acc H → H D = some (.lst acc) → Qd H) : LcG (ItzT K a b) g tt te vs σ H1 D Qd := by
  refine ⟨fun i m H => m = xs.length - i ∧ i ≤ xs.length ∧ ∃ acc, H D = some (.lst acc) ∧ P i acc H, ⟨xs.length, rfl, Nat.zero_le _, [], upd_same, h0 _ (Same.upd0 hD) upd_same⟩, ?_⟩
  rintro i m H ⟨rfl, hi, acc, e, p⟩
  obtain ⟨q1, q2⟩ := hl i acc H p
  by_cases hlt : i < xs.length
  · have hlt2 : i < zs.length := by omega
    refine .inr ⟨⟨xs, zs, xs[i], zs[i], q1, q2, by simp [hlt], by simp [hlt2]⟩, fun H => ∃ acc, H D = some (.lst acc) ∧ P (i + 1) acc H, fun H' p' => ⟨xs.length - (i + 1), by omega, rfl, hlt, p'⟩, fun v H' y => ?_⟩
    obtain ⟨T, x, z, rfl, nT, rfl, hx, hz⟩ := y
    exact hs i x z acc H T _ _ _ (hx xs q1) (hz zs q2) p e nT (Same.upd0 nT) upd_same ⟨fun y H4 e4 z k => ⟨acc, e4, z, acc ++ [y], upd_same, k _ But.refl.upd upd_same⟩, fun H3 e3 k => ⟨acc, e3, k⟩⟩
  · have ei : i = xs.length := by omega
    subst ei
    exact .inl ⟨⟨xs, zs, q1, q2, .inl (Nat.le_refl _)⟩, hd acc H p e⟩
/-- .. all the same thing -/
theorem lcZTc (v : V) (hlen : xs.length = zs.length) (hD : H1 D = none) (ha : SqT K H1 a xs) (hb : SqT K H1 b zs) (hz : xs.length ≤ 100000)
    (hs : ∀ (i : Nat) (x z : V) (T : Addr) (H' : Hp) (Kt : V → Hp → Prop) (Kf : Hp → Prop), xs[i]? = some x → zs[i]? = some z → Same H1 H' → H' T = some (.tup [x, z]) → (∀ H4, Same H' H4 → Kt v H4) → LcT g tt te vs σ (.ref T) H' Kt Kf)
    (hd : ∀ H, Same H1 H → H D = some (.lst (List.replicate xs.length v)) → Qd H) : LcG (ItzT K a b) g tt te vs σ H1 D Qd :=
  lcZT hlen (fun i acc H => acc = List.replicate i v ∧ Same H1 H) (fun H' s _ => ⟨rfl, s⟩) hD (fun i acc H p => ⟨Same.seqT p.2 ha, Same.seqT p.2 hb⟩)
    (fun i x z acc H T H' Kt Kf hx hz' p e nT s gT k => by
      obtain ⟨rfl, sm⟩ := p
      have hi := (List.getElem?_eq_some_iff.mp hx).1
      refine hs i x z T H' Kt Kf hx hz' (sm.trans s) gT fun H4 s4 => k.yes v H4 (s4 _ _ (s _ _ e)) (by rw [List.length_replicate, sizeLine_eq]; omega) fun H5 b5 _ => ⟨List.replicate_succ'.symm, Same.mut' ((sm.trans s).trans s4) b5 hD⟩)
    (fun acc H p e => hd H p.2 (by rw [← p.1]; exact e))
end
end My

/-! ### making instances where the __init__ may raise; isinstance of own instances -/
namespace My
open PySem PySem.Spec PyProof.Rows L2
def tMakeKS (C : Addr) (n m : Nat) (sp : Sp) (gV : List V → List V → List V) (E : L2.St → XK) (t tk : TA) : TE := fun σ H Q => t σ H fun vs H1 => tk σ H1 fun zs H2 => vs.length = n ∧ zs.length = m ∧ ∀ x dx, H2 x = none → H2 dx = none → dx ≠ x →
  sp (gV (.ref x :: vs) zs) (upd (upd H2 dx (.own x)) x (.ins C dx [])) (fun v H3 => v = .non ∧ Q (.ref x) H3) (E σ)
section
variable {X : Cx} {CX : CXT} {k n : Nat} {f C : Addr} {fd : FuncData} {ps ks : List Str} {sp : Sp} {E : L2.St → XK} {x : Str} {p pos : Pos} {e : Expr} {es : List Expr} {kws : List Keyword} {t tk : TA} {g : List Value → List Value → List Value} {gV : List V → List V → List V}
theorem run_makeKS {pins : List (Addr × Obj)} {σ : L2.St} {H : Hp} {s : Shared} {Q : VK} {us ws : List Value} {vs zs : List V} (M : Mk X.K C f) (F : FnOk X.prog X.w X.K X.mg X.base CX k f fd ps sp) (hr : Room (k + 1) X.A) (hb : KBn X.K fd ps (n + 1) ks g gV) (hx : PassesAt CX X σ (E σ))
    (I : Inv X pins σ H s) (r : Vals vs us) (rz : Vals zs ws) (l1 : vs.length = n) (l2 : zs.length = ks.length)
    (h : ∀ x dx, H x = none → H dx = none → dx ≠ x → sp (gV (.ref x :: vs) zs) (upd (upd H dx (.own x)) x (.ins C dx [])) (fun v H2 => v = .non ∧ Q (.ref x) H2) (E σ)) :
    wpAny (model X.prog X.w) X.A (call (.ref C) us (ks.zip ws)) (EP X pins σ Q) X.xe s := by
  have hq := h (s.heap.objs.size + 1) s.heap.objs.size (I.hok.fresh (Nat.le_succ _)) (I.hok.fresh (Nat.le_refl _)) (Nat.ne_of_lt (Nat.lt_succ_self _))
  have I2 := Inv.made (C := C) I
  have r1 : Vals (V.ref (s.heap.objs.size + 1) :: vs) (Value.ref (s.heap.objs.size + 1) :: us) := .cons rfl r
  have r2 := hb.rel r1 rz
  have n1 : (Value.ref (s.heap.objs.size + 1) :: us).length = n + 1 := by
    rw [List.length_cons, ← r.length, l1]
  refine wpAny_call (make_map (f := f) I.kIn M.makes M.init (beq_iff_eq.mp M.fn) (codeAny_mono (F.run _ X.stack _ _ ⟨Value.ref (s.heap.objs.size + 1) :: us, ks.zip ws⟩ (g (Value.ref (s.heap.objs.size + 1) :: us) ws) _ _ (E σ) (hr.make C us (ks.zip ws))
    (I2.env0.make C us (ks.zip ws)) (hb.to _ (Value.ref (s.heap.objs.size + 1) :: us) ws I2.kIn n1 (rz.length.symm.trans l2)) r2 hq) fun r s' hq' => ?_))
  cases r with
  | error e => exact hx pins _ _ e s' I2 hq'
  | ok fl =>
    cases fl with
    | ret u =>
      obtain ⟨v, H', I3, rv, ev, q3⟩ := I2.after hq'
      subst ev
      exact ⟨rv, ⟨V.ref (s.heap.objs.size + 1), H', I3, rfl, q3⟩⟩
    | next => exact False.elim hq'
    | brk => exact False.elim hq'
    | cont => exact False.elim hq'
/-- C(e, .., k = v, ..) in a try's body -/
theorem pe_makeKS (M : Mk X.K C f) (F : FnOk X.prog X.w X.K X.mg X.base CX k f fd ps sp) (hr : Room (k + 1) X.A) (hg : Gl X x) (hm : X.mg x = some (.ref C)) (hb : KBn X.K fd ps (n + 1) ks g gV) (hx : ∀ σ, PassesAt CX X σ (E σ)) (ha : PA X (e :: es) t) (hkw : PK X kws tk)
    (hall : (backToKw pos (keywordEach kws X.env)).all (·.1.isSome) = true := by rfl) (hks : (backToKw pos (keywordEach kws X.env)).filterMap (·.1) = ks := by rfl) (hdb : (x == ("__debug__" : Str)) = false := by decide)
    (he : starEach (e :: es) X.env = (false, eval e X.env) :: starEach es X.env := by rfl) (hpl : ((backTo pos (starEach (e :: es) X.env)).any (·.1) || (backToKw pos (keywordEach kws X.env)).any (·.1.isNone)) = false := by rfl) :
    PE X (.Call (.Name x p) (e :: es) kws pos) (tMakeKS C n ks.length sp gV E t tk) := by
  refine ⟨fun pins s σ H Q I h => ?_⟩
  refine wpAny_Call_Name_kw (ld_glob I hg hm ?_ hdb)
  refine PySem.W.callWith_KW (h₀ := X.base) I.ok.mod.kin M.kp hall (thn (ha.run pos pins s σ H _ I h) fun us s1 ⟨vs, H1, I1, r, q⟩ => ?_) hpl he
  refine thn (hkw.run pos pins s1 σ H1 _ I1 q) fun ws s2 ⟨zs, H2, I2, rz, l1, l2, q2⟩ => ⟨I2.kIn, ?_⟩
  rw [hks]
  exact run_makeKS M F hr hb (hx σ) I2 r rz l1 l2 q2
end
/-- the defaults of an __init__ called by places alone -/
theorem Ini.bx {K : PySem.W.Frag} {q : Str} {st : Stmt} {C : Addr} {kws : List (Str × V)} (d : Ini K q st C kws) {ps : List Str} (n : Nat) (hk : kws ≠ []) (hn : n + kws.length = ps.length)
    (h : ∀ (D : Addr) (doc pm : Value) (an : Option Addr) (cdv ct : Value) (us ks : List Value), us.length = n → ks.length = kws.length →
      KwChain D ((kws.map (·.1)).zip ks) (bindArgs (PySem.W.fnOf "__init__" q (defArgs st) (defBody st) (defScope st) .none (.ref D) doc pm an cdv ct) ⟨us, []⟩) (ps.zip (us ++ ks))) : ∃ ds, Vals (kws.map (·.2)) ds ∧ Binds K d.fd ps ds := d.FD.binds0 n hk hn h
/-- isinstance of an instance, by its class's chain -/
theorem kit_own {K : PySem.W.Frag} {C D : Addr} {b : Bool} (s : PySem.W.subIn K (.ref C) (.ref C) = some true) (h : PySem.W.subIn K (.ref C) (.ref D) = some b) (t : PySem.W.typeIn K (.ref D) = some (.type "type")) (hd : PySem.W.hasDictIn K D = true) : PySem.W.kitOne K (.ref C) (.ref D) = some b := by
  unfold PySem.W.kitOne
  split
  · next q =>
    have z : (Value.ref C) = .ref D := beq_iff_eq.mp q
    rw [← z, s] at h
    cases h
    rfl
  · have hc : (PySem.W.clsIn K D).isSome = true := by
      have := hd
      unfold PySem.W.hasDictIn at this
      cases q : PySem.W.clsIn K D with
      | none => rw [q] at this; cases this
      | some c => rfl
    have e2 : ((PySem.W.clsIn K D).isSome && PySem.W.typeIn K (.ref D) == some (.type "type")) = true := by rw [hc, t] <;> rfl
    show (if ((PySem.W.clsIn K D).isSome && PySem.W.typeIn K (.ref D) == some (.type "type")) = true then PySem.W.subIn K (.ref C) (.ref D) else none) = some b
    rw [if_pos e2]
    exact h
end My

/-! ### == and != of two instances of one class with a text's own __eq__ -/
namespace My
open PySem PySem.Spec PyProof.Rows L2
/-- the reading: what the own == promises -/
def rNeI (C : Addr) (sp : Sp) (E : XK) : R2 := fun x y H Q => ∃ (a b dx dy : Addr) (fs gs : List (Str × V)), x = .ref a ∧ y = .ref b ∧ H a = some (.ins C dx fs) ∧ H b = some (.ins C dy gs) ∧
  sp [.ref a, .ref b] H (fun v H' => ∃ r, v = .bl r ∧ Q (.bl (!r)) H') E
def rEqI (C : Addr) (sp : Sp) (E : XK) : R2 := fun x y H Q => ∃ (a b dx dy : Addr) (fs gs : List (Str × V)), x = .ref a ∧ y = .ref b ∧ H a = some (.ins C dx fs) ∧ H b = some (.ins C dy gs) ∧
  sp [.ref a, .ref b] H (fun v H' => ∃ r, v = .bl r ∧ Q (.bl r) H') E
section
variable {prog : Program} {w : World} {A : Around} {E : Value → Shared → Prop} {s : Shared} {K : PySem.W.Frag} {x C f : Addr} {ox : Obj} {od : Option Obj} {b : Value}
theorem call_objNe {Q : Value → Shared → Prop} (hu : A.units + 1 < cLine) (X : K.In s.heap) (I : PySem.W.InstAt s.heap x ox C od) (hm : PySem.W.mroIn K C (.type "object") = some true) (hs : PySem.W.findIn K (.ref C) "__eq__" = some (some (.ref f))) (hf : PySem.W.isFn K (.ref f) = true)
    (h : wpAny (model prog w) A.in1 (call (.ref f) [.ref x, b]) (fun v s' => ∃ r, v = .bool r ∧ Q (.bool (!r)) s') E s) :
    wpAny (model prog w) A (call (.builtin "object.__ne__") [.ref x, b]) Q E s := by
  refine wpAny_call (codeAny_call_builtin F.cmp_object.ne.plain F.cmpEntry_ne (PySem.W.check_slot F.cmpKind_ne F.cmpSplit_ne (I.type.andThen (PySem.W.looks_mroIn X hm)) (F.cmpArgs_ne _ _) ?_))
  unfold Builtin.«object.__ne__»
  repeat (first
    | with_reducible refine wpAny_cRoomFor (show A.in1.units < cLine from hu) ?_
    | (refine wpAny_bind (m := callSpecialIfBound? (.ref x) (Str.ofString "__eq__") [b])
        (PySem.W.ifBound_K X I hs hf (wpAny_mono h (fun r s' hr => by
          obtain ⟨b, rfl, hq⟩ := hr
          repeat (first | exact ⟨_, rfl, hq⟩ | exact hq | exact wpAny_pure hq | exact wpAny_truthy_bool hq | (refine wpAny_bind (m := truthy (.bool _)) (wpAny_truthy_bool ?_)) | wp_step)) fun _ _ e => e)))
    | wp_step)
theorem ifBound_objNe {args : List Value} {Q : Option Value → Shared → Prop} (X : K.In s.heap) (I : PySem.W.InstAt s.heap x ox C od) (hs : PySem.W.findIn K (.ref C) "__ne__" = some (some (.builtin "object.__ne__")))
    (h : wpAny (model prog w) A (call (.builtin "object.__ne__") (.ref x :: args)) (fun v => Q (some v)) E s) : wpAny (model prog w) A (callSpecialIfBound? (.ref x) "__ne__" args) Q E s := by
  simp only [callSpecialIfBound?, bindSpecialIfBound?]
  refine wpAny_holding (wpAny_bind (wpAny_bind (wpAny_bind (I.type.here ((PySem.W.looks_findIn X hs).here ?_)))))
  refine wpAny_bind (wpAny_askSetting (wpAny_ite ?_))
  have fin : wpAny (model prog w) A (call (.builtin "object.__ne__") ([.ref x] ++ args) >>= fun v => pure (some v)) Q E s := wpAny_bind (wpAny_mono h (fun v s' h' => wpAny_pure h') fun _ _ h' => h')
  split
  · exact wpAny_bind (wpAny_of_eq (F.cmp_object.ne.bind _) (wpAny_pure (by exact fin)))
  · exact wpAny_tryCatch (wpAny_bind (wpAny_of_eq (F.cmp_object.ne.bind _) (wpAny_pure (by exact fin))))
/-- != of two instances of one class, by the own __eq__ -/
theorem rc_neI {y : Addr} {oy : Obj} {od' : Option Obj} {Q : Value → Shared → Prop} (hu : A.units + 1 < cLine) (X : K.In s.heap) (I : PySem.W.InstAt s.heap x ox C od) (J : PySem.W.InstAt s.heap y oy C od') (hm : PySem.W.mroIn K C (.type "object") = some true)
    (hs : PySem.W.findIn K (.ref C) "__eq__" = some (some (.ref f))) (hn : PySem.W.findIn K (.ref C) "__ne__" = some (some (.builtin "object.__ne__"))) (hf : PySem.W.isFn K (.ref f) = true)
    (h : wpAny (model prog w) A.in1 (call (.ref f) [.ref x, .ref y]) (fun v s' => ∃ r, v = .bool r ∧ Q (.bool (!r)) s') E s) : wpAny (model prog w) A (richCompare .NotEq (.ref x) (.ref y)) Q E s := by
  have one : wpAny (model prog w) A (tryCompare (.ref x) "__ne__" (.ref y)) (fun r s' => ∃ v, r = some v ∧ Q v s') E s := by
    unfold tryCompare
    refine wpAny_bind (ifBound_objNe X I hn (call_objNe hu X I hm hs hf (wpAny_mono h (fun v s' hv => ?_) fun _ _ e => e)))
    obtain ⟨r, rfl, hq⟩ := hv
    exact ⟨r, rfl, wpAny_pure ⟨_, rfl, hq⟩⟩
  unfold richCompare
  simp only [oneThing_ref]
  refine wpAny_holding (wpAny_bind (wpAny_cRoomFor (by omega) ?_))
  rw [cmpInfo_NotEq]
  refine wpAny_bind (I.type.here (wpAny_bind (J.type.here ?_)))
  rw [show (Value.ref C != Value.ref C) = false from by simp]
  simp only [Bool.false_eq_true, if_false]
  refine wpAny_bind (wpAny_pure ?_)
  simp only [Bool.false_eq_true, if_false]
  refine wpAny_bind (wpAny_mono one (fun r s' z => ?_) fun _ _ e => e)
  obtain ⟨v, rfl, hq⟩ := z
  exact wpAny_pure hq
end
section
variable {X : Cx} {CX : CXT} {n : Nat} {C f : Addr} {fd : FuncData} {ps : List Str} {sp : Sp} {E : XK}
theorem op_neI (F : FnOk X.prog X.w X.K X.mg X.base CX n f fd ps sp) (hr : Room (n + 1) X.A) (hm : PySem.W.mroIn X.K C (.type "object") = some true) (hs : PySem.W.findIn X.K (.ref C) "__eq__" = some (some (.ref f))) (hn : PySem.W.findIn X.K (.ref C) "__ne__" = some (some (.builtin "object.__ne__")))
    (hf : PySem.W.isFn X.K (.ref f) = true) (hb : Binds X.K fd ps []) (hx : Passes CX X E) : OpR X (compareOp .NotEq) (rNeI C sp E) := by
  intro pins s σ H x y u v Q I rx ry h
  obtain ⟨a, b, dx, dy, fs, gs, rfl, rfl, ha, hb', hsp⟩ := h
  cases rx
  cases ry
  obtain ⟨mA, J, _⟩ := ins_get I.hok ha
  obtain ⟨mB, J', _⟩ := ins_get I.hok hb'
  obtain ⟨od, J, _⟩ := J.look
  obtain ⟨od', J', _⟩ := J'.look
  show wpAny (model X.prog X.w) X.A (richCompare .NotEq (.ref a) (.ref b)) (EP X pins σ Q) X.xe s
  refine rc_neI (show X.A.in1.units < cLine from hr.in1.units0) I.kIn J J' hm hs hn hf ?_
  have hl := F.len _ _ _ _ hsp
  have r2 : Vals [V.ref a, V.ref b] [Value.ref a, Value.ref b] := .cons rfl (.cons rfl .nil)
  have e0 : Env0 X.prog X.w X.K X.mg X.base X.A.in1 X.stack s H := have e := I.env0; ⟨e.frames, e.mod, e.bs, e.bsz, e.funs, e.frf, e.hok, e.bare⟩
  refine wpAny_call (codeAny_mono (F.run X.A.in1 X.stack s H ⟨[.ref a, .ref b], []⟩ [.ref a, .ref b] [.ref a, .ref b] _ E hr.in1 e0 (by
    have := hb s [.ref a, .ref b] I.kIn (by simpa using hl)
    simpa using this) r2 hsp) fun r s' hq => ?_)
  cases r with
  | error e => exact hx pins σ H s e s' I hq
  | ok fl =>
    cases fl with
    | ret w =>
      obtain ⟨z, H', I', rz, r, ez, q⟩ := I.after hq
      subst ez
      cases (show w = Value.bool r from rz)
      exact ⟨r, rfl, .bl (!r), H', I', rfl, q⟩
    | next => exact False.elim hq
    | brk => exact False.elim hq
    | cont => exact False.elim hq
theorem op_neIK {K : PySem.W.Frag} (hK : X.K = K) (F : FnOk X.prog X.w K X.mg X.base CX n f fd ps sp) (hr : Room (n + 1) X.A) (hm : PySem.W.mroIn K C (.type "object") = some true) (hs : PySem.W.findIn K (.ref C) "__eq__" = some (some (.ref f))) (hn : PySem.W.findIn K (.ref C) "__ne__" = some (some (.builtin "object.__ne__")))
    (hf : PySem.W.isFn K (.ref f) = true) (hb : Binds K fd ps []) (hx : Passes CX X E) : OpR X (compareOp .NotEq) (rNeI C sp E) := by
  subst hK
  exact op_neI F hr hm hs hn hf hb hx
end
/-- a method of an own class, with its facts -/
structure Mt (K : PySem.W.Frag) (x qual : Str) (st : Stmt) (C : Addr) (ps : List Str) where
  f : Addr
  fd : FuncData
  F : Fun K x qual st f fd
  b : Binds K fd ps []
  s : PySem.W.findIn K (.ref C) x = some (some (.ref f))
  n : PySem.W.isFn K (.ref f) = true
theorem Mt.meth {K : PySem.W.Frag} {x qual : Str} {st : Stmt} {C : Addr} {ps : List Str} (d : Mt K x qual st C ps) : Meth K C x d.f := ⟨d.s, d.n, d.F.kp⟩
def mt_mk {K : PySem.W.Frag} {x qual : Str} {st : Stmt} {C : Addr} {ps : List Str} {f : Addr} {oc : Value} {od an : Option Addr} {osl : Array (Option Value)} {kV doc pm cdv ct : Value}
    (a : PySem.W.findIn K (.ref C) x = some (some (.ref f))) (l : K.lookup f = some ⟨oc, od, .func (PySem.W.fnOf x qual (defArgs st) (defBody st) (defScope st) .none kV doc pm an cdv ct), osl⟩)
    (c : PySem.W.codeIn K cdv qual = true) (k : PySem.W.keepIn K (.ref f) = true) (n : PySem.W.isFn K (.ref f) = true)
    (hb : ∀ (kV doc pm : Value) (an : Option Addr) (cdv ct : Value) (us : List Value), us.length = ps.length → bindArgs (PySem.W.fnOf x qual (defArgs st) (defBody st) (defScope st) .none kV doc pm an cdv ct) ⟨us, []⟩ = pure (ps.zip us)) : Mt K x qual st C ps :=
  ⟨f, _, fun_mk l c k, (fun_mk l c k).binds hb, a, n⟩
end My

/-! ### styles: told values, fields, alike -/
namespace My
open PySem L2
abbrev sX (s : String) : V := .str (Str.ofString s)
def lettersL : List Nat := (Str.ofString "abcdefghijklmnopqrstuvwxyz").cps.toList
def NameOk (l : List Nat) : Prop := 1 ≤ l.length ∧ l.length ≤ 8 ∧ ∀ c ∈ l, c ∈ lettersL
inductive SzAt (H : Hp) : V → Prop
  | non : SzAt H .non
  | cells (n : Nat) : SzAt H (.int (n : Int))
  | part (a : Addr) (n : Nat) (h : H a = some (.tup [sX "part", .int (n : Int)])) : SzAt H (.ref a)
  | tie (a : Addr) (l : List Nat) (sd : String) (m : Int) (hl : NameOk l) (hs : sd = "wide" ∨ sd = "tall") (h : H a = some (.tup [sX "as", .str (sO l), sX sd, .int m])) : SzAt H (.ref a)
def BdAt (v : V) : Prop := v = .non ∨ ∃ n : Nat, v = .int (n : Int)
def CtAt (v : V) : Prop := ∃ n : Nat, v = .int (n : Int)
def RmAt (K : PySem.W.Frag) (H : Hp) (v : V) : Prop := ∃ (a : Addr) (n0 n1 n2 n3 : Nat), v = .ref a ∧ SqT K H a [.int (n0 : Int), .int (n1 : Int), .int (n2 : Int), .int (n3 : Int)]
def stands5 : List String := ["start", "end", "middle", "stretch", "base"]
def StAt (v : V) : Prop := v = .non ∨ ∃ s ∈ stands5, v = sX s
theorem SzAt.same {H H' : Hp} {v : V} (h : SzAt H v) (s : Same H H') : SzAt H' v := by
  cases h with
  | non => exact .non
  | cells n => exact .cells n
  | part a n h => exact .part a n (s _ _ h)
  | tie a l sd m hl hs h => exact .tie a l sd m hl hs (s _ _ h)
/-- a tuple stays where a list is changed -/
theorem tup_but {H H' : Hp} {p a : Addr} {xs zs : List V} (b : But p H H') (hp : H p = some (.lst zs)) (h : H a = some (.tup xs)) : H' a = some (.tup xs) := b.app (by rintro rfl; rw [hp] at h; cases h) h
theorem SzAt.but {H H' : Hp} {v : V} {p : Addr} {zs : List V} (h : SzAt H v) (b : But p H H') (hp : H p = some (.lst zs)) : SzAt H' v := by
  cases h with
  | non => exact .non
  | cells n => exact .cells n
  | part a n h => exact .part a n (tup_but b hp h)
  | tie a l sd m hl hs h => exact .tie a l sd m hl hs (tup_but b hp h)
theorem RmAt.same {K : PySem.W.Frag} {H H' : Hp} {v : V} (h : RmAt K H v) (s : Same H H') : RmAt K H' v := let ⟨a, n0, n1, n2, n3, e, g⟩ := h; ⟨a, n0, n1, n2, n3, e, Same.seqT s g⟩
theorem seqT_but {K : PySem.W.Frag} {H H' : Hp} {p a : Addr} {xs zs : List V} (b : But p H H') (hp : H p = some (.lst zs)) (h : SqT K H a xs) : SqT K H' a xs := by
  rcases h with (h | ⟨o, h⟩) | h
  · exact .inl (.inl (tup_but b hp h))
  · exact .inl (.inr ⟨o, b.app (by rintro rfl; rw [hp] at h; cases h) h⟩)
  · exact .inr h
theorem RmAt.but {K : PySem.W.Frag} {H H' : Hp} {v : V} {p : Addr} {zs : List V} (h : RmAt K H v) (b : But p H H') (hp : H p = some (.lst zs)) : RmAt K H' v := let ⟨a, n0, n1, n2, n3, e, g⟩ := h; ⟨a, n0, n1, n2, n3, e, seqT_but b hp g⟩
theorem RmAt.of {K : PySem.W.Frag} {H : Hp} {a : Addr} {n0 n1 n2 n3 : Nat} (h : H a = some (.tup [.int (n0 : Int), .int (n1 : Int), .int (n2 : Int), .int (n3 : Int)])) : RmAt K H (.ref a) := ⟨a, n0, n1, n2, n3, rfl, sqT h⟩
/-- the fields of a style as its __init__ lays them -/
def styF (w h lw lh mw mh g s r st : V) : List (Str × V) :=
  [("wide", w), ("high", h), ("least_wide", lw), ("least_high", lh), ("most_wide", mw), ("most_high", mh), ("grow", g), ("shrink", s), ("rims", r), ("stand", st)]
/-- all ten values good -/
structure ValsOk (K : PySem.W.Frag) (H : Hp) (w h lw lh mw mh g s r st : V) : Prop where
  w : SzAt H w
  h : SzAt H h
  lw : BdAt lw
  lh : BdAt lh
  mw : BdAt mw
  mh : BdAt mh
  g : CtAt g
  s : CtAt s
  r : RmAt K H r
  st : StAt st
theorem ValsOk.same {K : PySem.W.Frag} {H H' : Hp} {w h lw lh mw mh g s r st : V} (v : ValsOk K H w h lw lh mw mh g s r st) (m : Same H H') : ValsOk K H' w h lw lh mw mh g s r st := ⟨v.w.same m, v.h.same m, v.lw, v.lh, v.mw, v.mh, v.g, v.s, v.r.same m, v.st⟩
/-! #### alike -/
def FlAt (v : V) : Prop := (∃ i, v = .int i) ∨ ∃ s, v = .str s
def AlkAt (K : PySem.W.Frag) (H : Hp) (u v : V) : Prop := (u = v ∧ (v = .non ∨ FlAt v)) ∨ ∃ (a b : Addr) (xs : List V), u = .ref a ∧ v = .ref b ∧ SqT K H a xs ∧ H b = some (.tup xs) ∧ (∀ x ∈ xs, FlAt x) ∧ xs.length ≤ 10
theorem AlkAt.same {K : PySem.W.Frag} {H H' : Hp} {u v : V} (h : AlkAt K H u v) (s : Same H H') : AlkAt K H' u v := h.imp id fun ⟨a, b, xs, e1, e2, h1, h2, h3, h4⟩ => ⟨a, b, xs, e1, e2, Same.seqT s h1, s _ _ h2, h3, h4⟩
theorem AlkAt.but {K : PySem.W.Frag} {H H' : Hp} {u v : V} {p : Addr} {zs : List V} (h : AlkAt K H u v) (b : But p H H') (hp : H p = some (.lst zs)) : AlkAt K H' u v := h.imp id fun ⟨a, c, xs, e1, e2, h1, h2, h3, h4⟩ => ⟨a, c, xs, e1, e2, seqT_but b hp h1, tup_but b hp h2, h3, h4⟩
theorem SzAt.alk {K : PySem.W.Frag} {H : Hp} {v : V} (h : SzAt H v) : AlkAt K H v v := by
  cases h with
  | non => exact .inl ⟨rfl, .inl rfl⟩
  | cells n => exact .inl ⟨rfl, .inr (.inl ⟨_, rfl⟩)⟩
  | part a n h => exact .inr ⟨a, a, _, rfl, rfl, sqT h, h, fun x hx => by
      rcases List.mem_cons.mp hx with rfl | hx
      · exact .inr ⟨_, rfl⟩
      · rw [List.mem_singleton.mp hx]; exact .inl ⟨_, rfl⟩, Nat.le_of_ble_eq_true rfl⟩
  | tie a l sd m hl hs h => exact .inr ⟨a, a, _, rfl, rfl, sqT h, h, fun x hx => by
      rcases List.mem_cons.mp hx with rfl | hx
      · exact .inr ⟨_, rfl⟩
      rcases List.mem_cons.mp hx with rfl | hx
      · exact .inr ⟨_, rfl⟩
      rcases List.mem_cons.mp hx with rfl | hx
      · exact .inr ⟨_, rfl⟩
      · rw [List.mem_singleton.mp hx]; exact .inl ⟨_, rfl⟩, Nat.le_of_ble_eq_true rfl⟩
theorem BdAt.alk {K : PySem.W.Frag} {H : Hp} {v : V} (h : BdAt v) : AlkAt K H v v := by
  rcases h with rfl | ⟨n, rfl⟩
  · exact .inl ⟨rfl, .inl rfl⟩
  · exact .inl ⟨rfl, .inr (.inl ⟨_, rfl⟩)⟩
theorem CtAt.alk {K : PySem.W.Frag} {H : Hp} {v : V} (h : CtAt v) : AlkAt K H v v := by
  obtain ⟨n, rfl⟩ := h
  exact .inl ⟨rfl, .inr (.inl ⟨_, rfl⟩)⟩
theorem StAt.alk {K : PySem.W.Frag} {H : Hp} {v : V} (h : StAt v) : AlkAt K H v v := by
  rcases h with rfl | ⟨s, _, rfl⟩
  · exact .inl ⟨rfl, .inl rfl⟩
  · exact .inl ⟨rfl, .inr (.inr ⟨_, rfl⟩)⟩
theorem fl4 {n0 n1 n2 n3 : Int} : ∀ x ∈ [V.int n0, .int n1, .int n2, .int n3], FlAt x := fun x hx => by
  rcases List.mem_cons.mp hx with rfl | hx
  · exact .inl ⟨_, rfl⟩
  rcases List.mem_cons.mp hx with rfl | hx
  · exact .inl ⟨_, rfl⟩
  rcases List.mem_cons.mp hx with rfl | hx
  · exact .inl ⟨_, rfl⟩
  · rw [List.mem_singleton.mp hx]; exact .inl ⟨_, rfl⟩
/-! #### a comprehension over a text, all the same thing -/
section
variable {g : TG} {tt : TT} {te : TE} {vs : List Nat} {σ : L2.St} {H1 : Hp} {D : Addr} {Qd : Hp → Prop} {l : List Nat}
theorem lcSc (v : V) (hD : H1 D = none) (hz : l.length ≤ 100000)
    (hs : ∀ (i c : Nat) (H' : Hp) (Kt : V → Hp → Prop) (Kf : Hp → Prop), l[i]? = some c → Same H1 H' → (∀ H4, Same H' H4 → Kt v H4) → LcT g tt te vs σ (.str ⟨#[c]⟩) H' Kt Kf)
    (hd : ∀ H, Same H1 H → H D = some (.lst (List.replicate l.length v)) → Qd H) : LcG (Its (sO l)) g tt te vs σ H1 D Qd := by
  refine ⟨fun i m H => m = l.length - i ∧ i ≤ l.length ∧ Same H1 H ∧ H D = some (.lst (List.replicate i v)), ⟨l.length, rfl, Nat.zero_le _, Same.upd0 hD, upd_same⟩, ?_⟩
  rintro i m H ⟨rfl, hi, s, e⟩
  by_cases hlt : i < l.length
  · refine .inr ⟨?_, fun H => Same H1 H ∧ H D = some (.lst (List.replicate (i + 1) v)), fun H' p' => ⟨l.length - (i + 1), by omega, rfl, hlt, p'⟩, fun x H' y => ?_⟩
    · show i < l.toArray.size
      rw [List.size_toArray]; exact hlt
    · obtain ⟨rfl, c, hc, rfl⟩ := y
      have hc : l.toArray[i]? = some c := hc
      rw [List.getElem?_toArray] at hc
      exact hs i c H' _ _ hc s fun H4 s4 => ⟨_, s4 _ _ e, by rw [List.length_replicate, sizeLine_eq]; omega, Same.mut' (s.trans s4) But.refl.upd hD, by rw [upd_same, List.replicate_succ']⟩
  · have ei : i = l.length := by omega
    subst ei
    refine .inl ⟨?_, hd H s e⟩
    show l.toArray.size ≤ l.length
    rw [List.size_toArray]; exact Nat.le_refl _
end
theorem reps_bl (n : Nat) : List.replicate n (V.bl true) = (List.replicate n true).map V.bl := by rw [List.map_replicate]
theorem reps_all (n : Nat) : (List.replicate n true).all id = true := by
  rw [List.all_eq_true]
  intro x hx
  rw [List.eq_of_mem_replicate hx]; rfl
theorem isN_nat (n : Nat) : isN (.int (n : Int)) = true := by
  unfold isN
  simp
theorem styF_put (w h lw lh mw mh g s r st : V) : putF "stand" st (putF "rims" r (putF "shrink" s (putF "grow" g (putF "most_high" mh (putF "most_wide" mw (putF "least_high" lh (putF "least_wide" lw (putF "high" h (putF "wide" w []))))))))) = styF w h lw lh mw mh g s r st := by kernel_rfl
/-! #### ten values in a list -/
def names10 : List Str := ["wide", "high", "least_wide", "least_high", "most_wide", "most_high", "grow", "shrink", "rims", "stand"]
def styL (fs : List V) : List (Str × V) := names10.zip fs
theorem styL_F (w h lw lh mw mh g s r st : V) : styL [w, h, lw, lh, mw, mh, g, s, r, st] = styF w h lw lh mw mh g s r st := rfl
def OkF (K : PySem.W.Frag) (H : Hp) : Nat → V → Prop
  | 0, v => SzAt H v
  | 1, v => SzAt H v
  | 2, v => BdAt v
  | 3, v => BdAt v
  | 4, v => BdAt v
  | 5, v => BdAt v
  | 6, v => CtAt v
  | 7, v => CtAt v
  | 8, v => RmAt K H v
  | _, v => StAt v
def OkL (K : PySem.W.Frag) (H : Hp) (fs : List V) : Prop := fs.length = 10 ∧ ∀ (i : Nat) (v : V), fs[i]? = some v → OkF K H i v
theorem OkF.same {K : PySem.W.Frag} {H H' : Hp} {i : Nat} {v : V} (h : OkF K H i v) (s : Same H H') : OkF K H' i v :=
  match i, h with
  | 0, h => SzAt.same h s
  | 1, h => SzAt.same h s
  | 2, h => h
  | 3, h => h
  | 4, h => h
  | 5, h => h
  | 6, h => h
  | 7, h => h
  | 8, h => RmAt.same h s
  | _ + 9, h => h
theorem OkL.same {K : PySem.W.Frag} {H H' : Hp} {fs : List V} (h : OkL K H fs) (s : Same H H') : OkL K H' fs := ⟨h.1, fun i v e => (h.2 i v e).same s⟩
theorem OkL.vals {K : PySem.W.Frag} {H : Hp} {w h lw lh mw mh g s r st : V} (k : OkL K H [w, h, lw, lh, mw, mh, g, s, r, st]) : ValsOk K H w h lw lh mw mh g s r st :=
  ⟨k.2 0 _ rfl, k.2 1 _ rfl, k.2 2 _ rfl, k.2 3 _ rfl, k.2 4 _ rfl, k.2 5 _ rfl, k.2 6 _ rfl, k.2 7 _ rfl, k.2 8 _ rfl, k.2 9 _ rfl⟩
theorem ten {fs : List V} (h : fs.length = 10) : ∃ w h' lw lh mw mh g s r st, fs = [w, h', lw, lh, mw, mh, g, s, r, st] :=
  match fs, h with
  | [w, h', lw, lh, mw, mh, g, s, r, st], _ => ⟨w, h', lw, lh, mw, mh, g, s, r, st, rfl⟩
def dfltL (U : Addr) : List V := [.non, .non, .non, .non, .non, .non, .int 0, .int 1, .ref U, .non]
theorem dflt_ok {K : PySem.W.Frag} {H : Hp} {U : Addr} (t : ∀ H, SqT K H U [.int 0, .int 0, .int 0, .int 0]) : OkL K H (dfltL U) := by
  refine ⟨rfl, fun i v e => ?_⟩
  match i, e with
  | 0, e => cases e; exact .non
  | 1, e => cases e; exact .non
  | 2, e => cases e; exact .inl rfl
  | 3, e => cases e; exact .inl rfl
  | 4, e => cases e; exact .inl rfl
  | 5, e => cases e; exact .inl rfl
  | 6, e => cases e; exact ⟨0, rfl⟩
  | 7, e => cases e; exact ⟨1, rfl⟩
  | 8, e => cases e; exact ⟨U, 0, 0, 0, 0, rfl, t H⟩
  | 9, e => cases e; exact .inl rfl
  | n + 10, e => cases e
/-- told at some places -/
def mixL (fs ds : List V) (told : List Nat) : List V := (List.range 10).map fun i => if told.contains i then fs.getD i .non else ds.getD i .non
theorem mix_at {fs ds : List V} {told : List Nat} {i : Nat} (h : i < 10) : (mixL fs ds told)[i]? = some (if told.contains i then fs.getD i .non else ds.getD i .non) := by
  unfold mixL
  rw [List.getElem?_map, List.getElem?_range h]; rfl
theorem mix_ok {K : PySem.W.Frag} {H : Hp} {fs ds : List V} {told : List Nat} (hf : OkL K H fs) (hd : OkL K H ds) : OkL K H (mixL fs ds told) := by
  refine ⟨by unfold mixL; rw [List.length_map, List.length_range], fun i v e => ?_⟩
  have hi : i < 10 := by
    have := (List.getElem?_eq_some_iff.mp e).1
    unfold mixL at this
    rwa [List.length_map, List.length_range] at this
  rw [mix_at hi] at e
  cases e
  split
  · exact hf.2 i _ (by rw [List.getD_eq_getElem?_getD, List.getElem?_eq_getElem (by rw [hf.1]; exact hi)]; rfl)
  · exact hd.2 i _ (by rw [List.getD_eq_getElem?_getD, List.getElem?_eq_getElem (by rw [hd.1]; exact hi)]; rfl)
def sp_Style_init (K : PySem.W.Frag) (C : Addr) : Sp := fun vs H Q _ => ∃ (x dx : Addr) (w h lw lh mw mh g s r st : V), vs = [.ref x, w, h, lw, lh, mw, mh, g, s, r, st] ∧ H x = some (.ins C dx []) ∧ ValsOk K H w h lw lh mw mh g s r st ∧ ∀ H', But x H H' → H' x = some (.ins C dx (styF w h lw lh mw mh g s r st)) → Q .non H'
theorem make_same {H : Hp} {x dx : Addr} {o o' : HO} (fx : H x = none) (fdx : H dx = none) (n : dx ≠ x) : Same H (upd (upd H dx o) x o') := fun b u e => by
  rw [upd_ne (ne_of_none e fx), upd_ne (ne_of_none e fdx)]; exact e
theorem mk_style {K : PySem.W.Frag} {H : Hp} {C : Addr} {fs : List V} {Q : VK} {E : XK} (ok : OkL K H fs) (k : ∀ (x dx : Addr) H', Same H H' → H x = none → H' x = some (.ins C dx (styL fs)) → Q (.ref x) H') :
    ∀ x dx, H x = none → H dx = none → dx ≠ x → sp_Style_init K C (.ref x :: fs) (upd (upd H dx (.own x)) x (.ins C dx [])) (fun v H3 => v = .non ∧ Q (.ref x) H3) E := by
  intro x dx fx fdx n
  obtain ⟨w, h, lw, lh, mw, mh, g, s, r, st, rfl⟩ := ten ok.1
  have sm := make_same (o := HO.own x) (o' := HO.ins C dx []) fx fdx n
  exact ⟨x, dx, w, h, lw, lh, mw, mh, g, s, r, st, rfl, upd_same, ok.vals.same sm, fun H' b e => ⟨rfl, k x dx H' (Same.mut' sm b fx) fx e⟩⟩
theorem SzAt.dr {H H' : Hp} {a : Addr} {v : V} (h : SzAt H v) (hs : Src H a) (d : Dr a H H') : SzAt H' v := by
  obtain ⟨t, ht⟩ := hs
  exact h.but d.b ht
theorem RmAt.dr {K : PySem.W.Frag} {H H' : Hp} {a : Addr} {v : V} (h : RmAt K H v) (hs : Src H a) (d : Dr a H H') : RmAt K H' v := by
  obtain ⟨t, ht⟩ := hs
  exact h.but d.b ht
theorem tup_dr {H H' : Hp} {p a : Addr} {xs : List V} (d : Dr p H H') (hs : Src H p) (h : H a = some (.tup xs)) : H' a = some (.tup xs) := by
  obtain ⟨t, ht⟩ := hs
  exact tup_but d.b ht h
theorem four {α : Type} {us : List α} (h : us.length = 4) : ∃ a b c d, us = [a, b, c, d] :=
  match us, h with
  | [a, b, c, d], _ => ⟨a, b, c, d, rfl⟩
theorem mix_one {w h lw lh mw mh g s r st : V} {U : Addr} : ∀ {i : Nat}, i < 10 → mixL [w, h, lw, lh, mw, mh, g, s, r, st] (dfltL U) [i] = (dfltL U).set i ([w, h, lw, lh, mw, mh, g, s, r, st].getD i .non)
  | 0, _ => rfl
  | 1, _ => rfl
  | 2, _ => rfl
  | 3, _ => rfl
  | 4, _ => rfl
  | 5, _ => rfl
  | 6, _ => rfl
  | 7, _ => rfl
  | 8, _ => rfl
  | 9, _ => rfl
  | n + 10, h => absurd h (by omega)
theorem mk_mix {K : PySem.W.Frag} {H : Hp} {C U : Addr} {fs : List V} {Q : VK} {E : XK} (told : List Nat) (ok : OkL K H fs) (t : ∀ H, SqT K H U [.int 0, .int 0, .int 0, .int 0]) (k : ∀ (x dx : Addr) H', Same H H' → H x = none → H' x = some (.ins C dx (styL (mixL fs (dfltL U) told))) → Q (.ref x) H') :
    ∀ x dx, H x = none → H dx = none → dx ≠ x → sp_Style_init K C (.ref x :: mixL fs (dfltL U) told) (upd (upd H dx (.own x)) x (.ins C dx [])) (fun v H3 => v = .non ∧ Q (.ref x) H3) E :=
  mk_style (mix_ok ok (dflt_ok t)) k
theorem sty_at {K : PySem.W.Frag} {H : Hp} {C x dx : Addr} {fs : List V} {R : Hp → Prop} {E : XK} (ok : OkL K H fs) (fx : H x = none) (fdx : H dx = none) (n : dx ≠ x) (k : ∀ H', Same H H' → H' x = some (.ins C dx (styL fs)) → R H') :
    sp_Style_init K C (.ref x :: fs) (upd (upd H dx (.own x)) x (.ins C dx [])) (fun v H3 => v = .non ∧ R H3) E := by
  obtain ⟨w, h, lw, lh, mw, mh, g, s, r, st, rfl⟩ := ten ok.1
  have sm := make_same (o := HO.own x) (o' := HO.ins C dx []) fx fdx n
  exact ⟨x, dx, w, h, lw, lh, mw, mh, g, s, r, st, rfl, upd_same, ok.vals.same sm, fun H' b e => ⟨rfl, k H' (Same.mut' sm b fx) e⟩⟩
end My

/-! ### slices by plain numbers -/
namespace My
open PySem L2
theorem cutV_take (xs : List V) (j : Nat) : cutV xs none (some (j : Int)) = xs.take j := by
  unfold cutV
  rw [HT.sIx_none, HT.sIx_nat, List.drop_zero, Nat.sub_zero]
  by_cases h : j ≤ xs.length
  · rw [Nat.min_eq_left h]
  · rw [Nat.min_eq_right (by omega), List.take_of_length_le (Nat.le_refl _), List.take_of_length_le (by omega)]
theorem cutV_drop (xs : List V) (j : Nat) : cutV xs (some (j : Int)) none = xs.drop j := by
  unfold cutV
  rw [HT.sIx_none, HT.sIx_nat]
  by_cases h : j ≤ xs.length
  · rw [Nat.min_eq_left h, List.take_of_length_le (by rw [List.length_drop]; omega)]
  · rw [Nat.min_eq_right (by omega), List.drop_of_length_le (Nat.le_refl _), List.drop_of_length_le (by omega), List.take_nil]
theorem cutV_mid (xs : List V) (i j : Nat) (h : i ≤ j) : cutV xs (some (i : Int)) (some (j : Int)) = (xs.take j).drop i := by
  unfold cutV
  rw [HT.sIx_nat, HT.sIx_nat]
  by_cases h1 : i ≤ xs.length
  · by_cases h2 : j ≤ xs.length
    · rw [Nat.min_eq_left h1, Nat.min_eq_left h2, List.drop_take]
    · rw [Nat.min_eq_left h1, Nat.min_eq_right (by omega), List.take_of_length_le (by rw [List.length_drop]; omega), List.take_of_length_le (by omega)]
  · rw [Nat.min_eq_right (show xs.length ≤ i by omega), List.drop_of_length_le (Nat.le_refl _), List.take_nil, List.drop_of_length_le (by rw [List.length_take]; omega)]
theorem cutV_init (xs : List V) : cutV xs none (some (-1)) = xs.take (xs.length - 1) := by
  unfold cutV
  have e : HT.sIx xs.length xs.length (some (-1)) = xs.length - 1 := by
    show (if (-1 : Int) < 0 then ((-1 : Int) + (xs.length : Int)).toNat else min (-1 : Int).toNat xs.length) = xs.length - 1
    rw [if_pos (by decide)]; omega
  rw [HT.sIx_none, e, List.drop_zero, Nat.sub_zero]
end My

/-! ### tracks and asks: plain mathematics -/
namespace My
open PySem L2
inductive Tk where
  | cells (n : Int)
  | fit
  | share (k : Int)
  deriving DecidableEq
def Tk.free : Tk → Bool
  | .cells _ => false
  | _ => true
def Tk.told : Tk → Int
  | .cells n => n
  | _ => 0
def Tk.ok : Tk → Prop
  | .cells n => 0 ≤ n
  | .fit => True
  | .share k => 1 ≤ k
def TkAt (H : Hp) (v : V) : Tk → Prop
  | .cells n => v = .int n
  | .fit => v = .str "fit"
  | .share k => ∃ r, v = .ref r ∧ H r = some (.tup [.str "share", .int k])
theorem TkAt.mono {H H' : Hp} {v : V} {t : Tk} (h : TkAt H v t) (s : Same H H') : TkAt H' v t := by
  cases t with
  | cells n => exact h
  | fit => exact h
  | share k => obtain ⟨r, e, g⟩ := h; exact ⟨r, e, s _ _ g⟩
theorem TkAt.but {H H' : Hp} {v : V} {t : Tk} {a : Addr} {xs : List V} (h : TkAt H v t) (g : H a = some (.lst xs)) (b : But a H H') : TkAt H' v t := by
  cases t with
  | cells n => exact h
  | fit => exact h
  | share k => obtain ⟨r, e, g2⟩ := h; exact ⟨r, e, b.app (fun z => by rw [z, g] at g2; cases g2) g2⟩
/-- an item's place, and what stands there -/
def TksAt (H : Hp) (vs : List V) (ts : List Tk) : Prop := vs.length = ts.length ∧ ∀ (i : Nat) (v : V) (t : Tk), vs[i]? = some v → ts[i]? = some t → TkAt H v t
theorem TksAt.mono {H H' : Hp} {vs : List V} {ts : List Tk} (h : TksAt H vs ts) (s : Same H H') : TksAt H' vs ts := ⟨h.1, fun i v t a b => (h.2 i v t a b).mono s⟩
theorem TksAt.but {H H' : Hp} {vs : List V} {ts : List Tk} {a : Addr} {xs : List V} (h : TksAt H vs ts) (g : H a = some (.lst xs)) (b : But a H H') : TksAt H' vs ts := ⟨h.1, fun i v t x y => (h.2 i v t x y).but g b⟩
theorem TksAt.at {H : Hp} {vs : List V} {ts : List Tk} (h : TksAt H vs ts) {i : Nat} {t : Tk} (e : ts[i]? = some t) : ∃ v, vs[i]? = some v ∧ TkAt H v t := by
  have hi := (List.getElem?_eq_some_iff.mp e).1
  have l := h.1
  exact ⟨vs[i], List.getElem?_eq_getElem (by omega), h.2 i _ t (List.getElem?_eq_getElem (by omega)) e⟩
theorem TksAt.at' {H : Hp} {vs : List V} {ts : List Tk} (h : TksAt H vs ts) {i : Nat} {v : V} (e : vs[i]? = some v) : ∃ t, ts[i]? = some t ∧ TkAt H v t := by
  have hi := (List.getElem?_eq_some_iff.mp e).1
  have l := h.1
  exact ⟨ts[i], List.getElem?_eq_getElem (by omega), h.2 i v _ e (List.getElem?_eq_getElem (by omega))⟩
/-! #### how much tracks grow -/
def tkF (ts : List Tk) (i : Nat) : Bool := match ts[i]? with
  | some t => t.free
  | none => false
def freeL (ts : List Tk) (f m : Nat) : List Nat := ((List.range m).map fun k => f + k).filter (tkF ts)
theorem freeL_nodup (ts : List Tk) (f m : Nat) : (freeL ts f m).Nodup := by
  unfold freeL
  refine List.Pairwise.filter _ ?_
  have := List.nodup_range (n := m)
  exact (List.pairwise_map.mpr (this.imp fun h => by omega))
theorem freeL_mem {ts : List Tk} {f m i : Nat} : i ∈ freeL ts f m ↔ f ≤ i ∧ i < f + m ∧ tkF ts i = true := by
  unfold freeL
  rw [List.mem_filter, List.mem_map]
  constructor
  · rintro ⟨⟨k, hk, rfl⟩, h⟩
    have := List.mem_range.mp hk
    exact ⟨by omega, by omega, h⟩
  · rintro ⟨h1, h2, h3⟩
    exact ⟨⟨i - f, List.mem_range.mpr (by omega), by omega⟩, h3⟩
def partA (lack : Int) (L j : Nat) : Int := lack * ((j : Int) + 1) / (L : Int) - lack * (j : Int) / (L : Int)
def sliceSum (ss : List Int) (f m : Nat) : Int := ((ss.take (f + m)).drop f).sum
/-- what an ask deals to a track -/
def pA (ts : List Tk) (ss : List Int) (f m : Nat) (wanted : Int) (i : Nat) : Int :=
  if i ∈ freeL ts f m ∧ 0 < wanted - sliceSum ss f m then partA (wanted - sliceSum ss f m) (freeL ts f m).length ((freeL ts f m).idxOf i) else 0
theorem partA_nonneg {lack : Int} {L j : Nat} (h : 0 ≤ lack) (hL : 0 < L) : 0 ≤ partA lack L j := by
  unfold partA
  have h1 : lack * (j : Int) ≤ lack * ((j : Int) + 1) := Int.mul_le_mul_of_nonneg_left (by omega) h
  have h2 : lack * (j : Int) / (L : Int) ≤ lack * ((j : Int) + 1) / (L : Int) := Int.ediv_le_ediv (by omega) h1
  omega
theorem pA_nonneg (ts : List Tk) (ss : List Int) (f m : Nat) (wanted : Int) (i : Nat) : 0 ≤ pA ts ss f m wanted i := by
  unfold pA
  split
  · next h => exact partA_nonneg (Int.le_of_lt h.2) (List.length_pos_of_mem h.1)
  · exact Int.le_refl 0
/-- the grown ones, by places -/
def growM (n : Nat) (ts : List Tk) (ss g : List Int) (f m : Nat) (wanted : Int) : List Int := (List.range n).map fun i => max (wAt g i) (pA ts ss f m wanted i)
theorem growM_len {n : Nat} {ts : List Tk} {ss g : List Int} {f m : Nat} {wanted : Int} : (growM n ts ss g f m wanted).length = n := by unfold growM; rw [List.length_map, List.length_range]
theorem growM_at {n : Nat} {ts : List Tk} {ss g : List Int} {f m : Nat} {wanted : Int} {i : Nat} (hi : i < n) : wAt (growM n ts ss g f m wanted) i = max (wAt g i) (pA ts ss f m wanted i) := by
  unfold growM wAt
  rw [List.getD_eq_getElem?_getD, List.getElem?_map, List.getElem?_range hi]; rfl
/-- behind the first p places of the free ones -/
def growP (ts : List Tk) (ss g : List Int) (f m : Nat) (wanted : Int) (p : Nat) (i : Nat) : Int :=
  if i ∈ (freeL ts f m).take p then max (wAt g i) (partA (wanted - sliceSum ss f m) (freeL ts f m).length ((freeL ts f m).idxOf i)) else wAt g i
theorem growP_zero {ts : List Tk} {ss g : List Int} {f m : Nat} {wanted : Int} (i : Nat) : growP ts ss g f m wanted 0 i = wAt g i := by
  unfold growP; simp
theorem growP_end {ts : List Tk} {ss g : List Int} {f m : Nat} {wanted : Int} {i : Nat} (hl : 0 < wanted - sliceSum ss f m) (hg : 0 ≤ wAt g i) : growP ts ss g f m wanted (freeL ts f m).length i = max (wAt g i) (pA ts ss f m wanted i) := by
  unfold growP pA
  rw [List.take_length]
  by_cases h : i ∈ freeL ts f m
  · rw [if_pos h, if_pos ⟨h, hl⟩]
  · rw [if_neg h, if_neg (fun z => h z.1)]; omega
theorem growP_skip {ts : List Tk} {ss g : List Int} {f m : Nat} {wanted : Int} {i : Nat} (hl : ¬ 0 < wanted - sliceSum ss f m) (hg : 0 ≤ wAt g i) : wAt g i = max (wAt g i) (pA ts ss f m wanted i) := by
  unfold pA
  rw [if_neg (fun z => hl z.2)]; omega
theorem take_succ_mem {l : List Nat} {p c i : Nat} (h : l[p]? = some c) : i ∈ l.take (p + 1) ↔ i ∈ l.take p ∨ i = c := by
  rw [List.take_add_one, h]; simp
theorem idxOf_at : ∀ {l : List Nat}, l.Nodup → ∀ {p c : Nat}, l[p]? = some c → l.idxOf c = p
  | [], _, _, _, h => by simp at h
  | x :: l, _, 0, c, h => by
    have : x = c := by simpa using h
    subst this
    rw [List.idxOf_cons_self]
  | x :: l, hn, p + 1, c, h => by
    have h : l[p]? = some c := by simpa using h
    have hne : x ≠ c := fun e => (List.nodup_cons.mp hn).1 (by rw [e]; exact List.mem_of_getElem? h)
    rw [List.idxOf_cons, idxOf_at (List.nodup_cons.mp hn).2 h]
    have e : (x == c) = false := beq_eq_false_iff_ne.mpr hne
    rw [e]; rfl
theorem not_mem_take {l : List Nat} (hn : l.Nodup) {p c : Nat} (h : l[p]? = some c) : c ∉ l.take p := fun hm => by
  obtain ⟨j, hj, e⟩ := List.getElem_of_mem hm
  rw [List.length_take] at hj
  rw [List.getElem_take] at e
  have h1 : l[j]? = some c := by rw [List.getElem?_eq_getElem (by omega), e]
  have := idxOf_at hn h1
  have := idxOf_at hn h
  omega
theorem growP_succ {ts : List Tk} {ss g : List Int} {f m : Nat} {wanted : Int} {p c : Nat} (h : (freeL ts f m)[p]? = some c) (i : Nat) :
    growP ts ss g f m wanted (p + 1) i = if i = c then max (growP ts ss g f m wanted p c) (partA (wanted - sliceSum ss f m) (freeL ts f m).length p) else growP ts ss g f m wanted p i := by
  have hn := freeL_nodup ts f m
  unfold growP
  by_cases hi : i = c
  · subst hi
    rw [if_pos ((take_succ_mem h).mpr (.inr rfl)), if_pos rfl, if_neg (not_mem_take hn h), idxOf_at hn h]
  · rw [if_neg hi]
    by_cases hm : i ∈ (freeL ts f m).take p
    · rw [if_pos ((take_succ_mem h).mpr (.inl hm)), if_pos hm]
    · rw [if_neg (fun z => by rcases (take_succ_mem h).mp z with z | z; exact hm z; exact hi z), if_neg hm]
/-! #### the steps -/
abbrev Ask3 := Nat × Nat × Int
def AskAt (H : Hp) (v : V) (q : Ask3) : Prop := ∃ r, v = .ref r ∧ H r = some (.tup [.int (q.1 : Int), .int (q.2.1 : Int), .int q.2.2])
theorem AskAt.mono {H H' : Hp} {v : V} {q : Ask3} (h : AskAt H v q) (s : Same H H') : AskAt H' v q := let ⟨r, e, g⟩ := h; ⟨r, e, s _ _ g⟩
def AsksAt (H : Hp) (vs : List V) (qs : List Ask3) : Prop := vs.length = qs.length ∧ ∀ (i : Nat) (v : V) (q : Ask3), vs[i]? = some v → qs[i]? = some q → AskAt H v q
theorem AsksAt.mono {H H' : Hp} {vs : List V} {qs : List Ask3} (h : AsksAt H vs qs) (s : Same H H') : AsksAt H' vs qs := ⟨h.1, fun i v t a b => (h.2 i v t a b).mono s⟩
theorem AsksAt.at' {H : Hp} {vs : List V} {qs : List Ask3} (h : AsksAt H vs qs) {i : Nat} {v : V} (e : vs[i]? = some v) : ∃ q, qs[i]? = some q ∧ AskAt H v q := by
  have hi := (List.getElem?_eq_some_iff.mp e).1
  have l := h.1
  exact ⟨qs[i], List.getElem?_eq_getElem (by omega), h.2 i v _ e (List.getElem?_eq_getElem (by omega))⟩
/-- an ask that a grid of n tracks takes -/
def AskOk (n : Nat) (q : Ask3) : Prop := 1 ≤ q.2.1 ∧ q.1 + q.2.1 ≤ n ∧ 0 ≤ q.2.2
def grow1 (n : Nat) (ts : List Tk) (gap : Int) (ss : List Int) (many : Nat) (g : List Int) (q : Ask3) : List Int :=
  if q.2.1 = many then growM n ts ss g q.1 q.2.1 (q.2.2 - gap * ((many : Int) - 1)) else g
def grownM (ts : List Tk) (qs : List Ask3) (gap : Int) (ss : List Int) (many : Nat) : List Int := qs.foldl (grow1 ts.length ts gap ss many) (List.replicate ts.length 0)
def stepM (ts : List Tk) (qs : List Ask3) (gap : Int) (ss : List Int) (many : Nat) : List Int := (List.range ts.length).map fun i => wAt ss i + wAt (grownM ts qs gap ss many) i
def trackM (ts : List Tk) (qs : List Ask3) (gap : Int) : List Int := (List.range ts.length).foldl (fun s k => stepM ts qs gap s (k + 1)) (ts.map Tk.told)
theorem stepM_len {ts : List Tk} {qs : List Ask3} {gap : Int} {ss : List Int} {many : Nat} : (stepM ts qs gap ss many).length = ts.length := by unfold stepM; rw [List.length_map, List.length_range]
theorem stepM_at {ts : List Tk} {qs : List Ask3} {gap : Int} {ss : List Int} {many i : Nat} (hi : i < ts.length) : wAt (stepM ts qs gap ss many) i = wAt ss i + wAt (grownM ts qs gap ss many) i := by
  unfold stepM
  conv => lhs; unfold wAt
  rw [List.getD_eq_getElem?_getD, List.getElem?_map, List.getElem?_range hi]; rfl
def stepsM (ts : List Tk) (qs : List Ask3) (gap : Int) (k : Nat) : List Int := (List.range k).foldl (fun s k => stepM ts qs gap s (k + 1)) (ts.map Tk.told)
theorem stepsM_succ (ts : List Tk) (qs : List Ask3) (gap : Int) (k : Nat) : stepsM ts qs gap (k + 1) = stepM ts qs gap (stepsM ts qs gap k) (k + 1) := by
  unfold stepsM
  rw [List.range_succ, List.foldl_append]; rfl
theorem stepsM_len (ts : List Tk) (qs : List Ask3) (gap : Int) : ∀ k, (stepsM ts qs gap k).length = ts.length
  | 0 => by unfold stepsM; simp
  | k + 1 => by rw [stepsM_succ]; exact stepM_len
theorem grow1_len {n : Nat} {ts : List Tk} {gap : Int} {ss : List Int} {many : Nat} {g : List Int} {q : Ask3} (h : g.length = n) : (grow1 n ts gap ss many g q).length = n := by
  unfold grow1
  split
  · exact growM_len
  · exact h
theorem grown_len {n : Nat} {ts : List Tk} {gap : Int} {ss : List Int} {many : Nat} : ∀ (qs : List Ask3) (g : List Int), g.length = n → (qs.foldl (grow1 n ts gap ss many) g).length = n
  | [], g, h => h
  | q :: qs, g, h => grown_len qs _ (grow1_len h)
/-- the greatest of x and some more -/
def maxF (x : Int) (l : List Int) : Int := l.foldl max x
theorem maxF_ge {x : Int} : ∀ {l : List Int}, x ≤ maxF x l
  | [] => Int.le_refl _
  | y :: l => Int.le_trans (show x ≤ max x y by omega) (maxF_ge (l := l))
theorem maxF_all {y : Int} : ∀ {l : List Int} {x : Int}, y ∈ l → y ≤ maxF x l
  | z :: l, x, h => by
    rcases List.mem_cons.mp h with rfl | h
    · exact Int.le_trans (show y ≤ max x y by omega) (maxF_ge (l := l))
    · exact maxF_all (l := l) h
theorem maxF_mem : ∀ {l : List Int} {x : Int}, maxF x l = x ∨ maxF x l ∈ l
  | [], x => .inl rfl
  | y :: l, x => by
    rcases maxF_mem (l := l) (x := max x y) with h | h
    · by_cases hxy : x ≤ y
      · right; show maxF (max x y) l ∈ y :: l
        rw [h, Int.max_eq_right hxy]; exact List.mem_cons_self ..
      · left; show maxF (max x y) l = x
        rw [h]; omega
    · right; exact List.mem_cons_of_mem _ h
theorem maxF_uniq {x : Int} {l : List Int} {m : Int} (h1 : x ≤ m) (h2 : ∀ y ∈ l, y ≤ m) (h3 : m = x ∨ m ∈ l) : m = maxF x l := by
  have a : maxF x l ≤ m := by
    rcases maxF_mem (l := l) (x := x) with h | h
    · omega
    · exact h2 _ h
  have b : m ≤ maxF x l := by
    rcases h3 with h | h
    · rw [h]; exact maxF_ge
    · exact maxF_all h
  omega
theorem maxF_perm {x : Int} {l l' : List Int} (h : ∀ y, y ∈ l ↔ y ∈ l') : maxF x l = maxF x l' :=
  maxF_uniq maxF_ge (fun y hy => maxF_all ((h y).mpr hy)) (maxF_mem.imp id fun z => (h _).mp z)
/-- what all asks of one many deal to a track -/
def dealsA (ts : List Tk) (qs : List Ask3) (gap : Int) (ss : List Int) (many i : Nat) : List Int := (qs.filter fun q => decide (q.2.1 = many)).map fun q => pA ts ss q.1 q.2.1 (q.2.2 - gap * ((many : Int) - 1)) i
theorem grown_at {n : Nat} {ts : List Tk} {gap : Int} {ss : List Int} {many i : Nat} (hi : i < n) : ∀ (qs : List Ask3) (g : List Int), g.length = n → wAt (qs.foldl (grow1 n ts gap ss many) g) i = maxF (wAt g i) (dealsA ts qs gap ss many i)
  | [], g, h => rfl
  | q :: qs, g, h => by
    show wAt (qs.foldl _ (grow1 n ts gap ss many g q)) i = _
    rw [grown_at hi qs _ (grow1_len h)]
    unfold dealsA
    rw [List.filter_cons]
    by_cases e : q.2.1 = many
    · rw [if_pos (decide_eq_true e), List.map_cons]
      unfold grow1
      rw [if_pos e, growM_at hi]; rfl
    · rw [if_neg (by simpa using e)]
      unfold grow1
      rw [if_neg e]
theorem grownM_at {ts : List Tk} {qs : List Ask3} {gap : Int} {ss : List Int} {many i : Nat} (hi : i < ts.length) : wAt (grownM ts qs gap ss many) i = maxF 0 (dealsA ts qs gap ss many i) := by
  unfold grownM
  rw [grown_at hi _ _ List.length_replicate]
  congr 1
  unfold wAt
  rw [List.getD_eq_getElem?_getD, List.getElem?_replicate, if_pos hi]; rfl
theorem list_ext_wAt {xs ys : List Int} (hl : xs.length = ys.length) (h : ∀ i, i < xs.length → wAt xs i = wAt ys i) : xs = ys := by
  apply List.ext_getElem hl
  intro i h1 h2
  have := h i h1
  unfold wAt at this
  rw [List.getD_eq_getElem?_getD, List.getD_eq_getElem?_getD, List.getElem?_eq_getElem h1, List.getElem?_eq_getElem h2] at this
  exact this
theorem told_at {ts : List Tk} {i : Nat} {t : Tk} (h : ts[i]? = some t) : wAt (ts.map Tk.told) i = t.told := by
  unfold wAt
  rw [List.getD_eq_getElem?_getD, List.getElem?_map, h]; rfl
/-! #### asks of one track -/
theorem freeL_one (ts : List Tk) (f : Nat) : freeL ts f 1 = if tkF ts f = true then [f] else [] := by
  unfold freeL
  show List.filter (tkF ts) [f + 0] = _
  rw [Nat.add_zero, List.filter_cons]; rfl
theorem slice_one {ss : List Int} {f : Nat} (h : f < ss.length) : sliceSum ss f 1 = wAt ss f := by
  unfold sliceSum wAt
  rw [List.getD_eq_getElem?_getD, List.getElem?_eq_getElem h, List.drop_take, Nat.add_sub_cancel_left, List.drop_eq_getElem_cons h]
  simp only [List.take_succ_cons, List.take_zero, List.sum_cons, List.sum_nil, Int.add_zero, Option.getD_some]
/-- with asks of one track alone -/
theorem track_single {ts : List Tk} {qs : List Ask3} {gap : Int} (hq : ∀ q ∈ qs, q.2.1 = 1 ∧ q.1 < ts.length) {i : Nat} {t : Tk} (ht : ts[i]? = some t) :
    wAt (trackM ts qs gap) i = if t.free = true then maxF 0 ((qs.filter fun q => decide (q.1 = i)).map fun q => q.2.2) else t.told := by
  have hi := (List.getElem?_eq_some_iff.mp ht).1
  have hf : tkF ts i = t.free := by unfold tkF; rw [ht]
  have later : ∀ (ss : List Int) (k : Nat), wAt (stepM ts qs gap ss (k + 2)) i = wAt ss i := fun ss k => by
    rw [stepM_at hi, grownM_at hi]
    have : dealsA ts qs gap ss (k + 2) i = [] := by
      unfold dealsA
      rw [List.map_eq_nil_iff, List.filter_eq_nil_iff]
      intro q hq'
      have := (hq q hq').1
      simp; omega
    rw [this]
    show wAt ss i + 0 = _
    omega
  have steps : ∀ k, wAt (stepsM ts qs gap (k + 1)) i = wAt (stepsM ts qs gap 1) i := fun k => by
    induction k with
    | zero => rfl
    | succ k ih => rw [stepsM_succ, later, ih]
  have e : trackM ts qs gap = stepsM ts qs gap ts.length := rfl
  obtain ⟨m, hm⟩ : ∃ m, ts.length = m + 1 := ⟨ts.length - 1, by omega⟩
  rw [e, hm, steps]
  have e1 : stepsM ts qs gap 1 = stepM ts qs gap (ts.map Tk.told) 1 := rfl
  rw [e1, stepM_at hi, grownM_at hi, told_at ht]
  have hpa : ∀ q ∈ qs, pA ts (ts.map Tk.told) q.1 q.2.1 (q.2.2 - gap * (((1 : Nat) : Int) - 1)) i = if q.1 = i ∧ t.free = true ∧ 0 < q.2.2 then q.2.2 else 0 := fun q hq' => by
    obtain ⟨h1, h2⟩ := hq q hq'
    unfold pA
    rw [h1, freeL_one, slice_one (by rw [List.length_map]; exact h2)]
    have e0 : gap * (((1 : Nat) : Int) - 1) = 0 := by simp
    rw [e0]
    by_cases hqi : q.1 = i
    · rw [hqi, hf, told_at ht]
      by_cases hfr : t.free = true
      · have h0 : t.told = 0 := by cases t <;> simp_all [Tk.free, Tk.told]
        rw [h0, if_pos hfr]
        by_cases hs : 0 < q.2.2
        · rw [if_pos ⟨by simp, by omega⟩, if_pos ⟨rfl, hfr, hs⟩]
          unfold partA
          simp
        · rw [if_neg (fun z => hs (by omega)), if_neg (fun z => hs z.2.2)]
      · rw [if_neg hfr, if_neg (by simp), if_neg (fun z => hfr z.2.1)]
    · rw [if_neg (fun z => ?_), if_neg (fun z => hqi z.1)]
      have := z.1
      split at this
      · exact hqi (List.mem_singleton.mp this).symm
      · cases this
  by_cases hfr : t.free = true
  · rw [if_pos hfr]
    have h0 : t.told = 0 := by cases t <;> simp_all [Tk.free, Tk.told]
    rw [h0, Int.zero_add]
    refine (maxF_uniq maxF_ge (fun y hy => ?_) ?_)
    · obtain ⟨q, hq1, rfl⟩ := List.mem_map.mp hy
      obtain ⟨hq2, hq3⟩ := List.mem_filter.mp hq1
      have hq3 := of_decide_eq_true hq3
      by_cases hs : 0 < q.2.2
      · refine maxF_all ?_
        unfold dealsA
        refine List.mem_map.mpr ⟨q, List.mem_filter.mpr ⟨hq2, decide_eq_true (hq q hq2).1⟩, ?_⟩
        rw [hpa q hq2, if_pos ⟨hq3, hfr, hs⟩]
      · exact Int.le_trans (by omega) maxF_ge
    · rcases maxF_mem (x := 0) (l := dealsA ts qs gap (ts.map Tk.told) 1 i) with h | h
      · exact .inl h
      · unfold dealsA at h
        obtain ⟨q, hq1, e2⟩ := List.mem_map.mp h
        obtain ⟨hq2, _⟩ := List.mem_filter.mp hq1
        rw [hpa q hq2] at e2
        by_cases hc : q.1 = i ∧ t.free = true ∧ 0 < q.2.2
        · rw [if_pos hc] at e2
          right
          show maxF 0 (List.map _ _) ∈ _
          rw [← e2]
          exact List.mem_map.mpr ⟨q, List.mem_filter.mpr ⟨hq2, decide_eq_true hc.1⟩, rfl⟩
        · rw [if_neg hc] at e2
          left
          unfold dealsA
          exact e2.symm
  · rw [if_neg hfr]
    have : maxF 0 (dealsA ts qs gap (ts.map Tk.told) 1 i) = 0 := by
      symm
      refine maxF_uniq (Int.le_refl 0) (fun y hy => ?_) (.inl rfl)
      unfold dealsA at hy
      obtain ⟨q, hq1, rfl⟩ := List.mem_map.mp hy
      obtain ⟨hq2, _⟩ := List.mem_filter.mp hq1
      rw [hpa q hq2, if_neg (fun z => hfr z.2.1)]
      exact Int.le_refl 0
    rw [this]; omega
/-! #### as data -/
def tkD : Tk → PyData
  | .cells n => .int n
  | .fit => .str "fit"
  | .share k => .tuple [.str "share", .int k]
def askD (q : Ask3) : PyData := .tuple [.int (q.1 : Int), .int (q.2.1 : Int), .int q.2.2]
section
variable {K : PySem.W.Frag} {H : Hp}
theorem dp_tk {v : V} {t : Tk} (h : TkAt H v t) : Dp K H v (tkD t) := by
  cases t with
  | cells n =>
    have e : v = .int n := h
    subst e; exact .int n
  | fit =>
    have e : v = .str "fit" := h
    subst e; exact .str _
  | share k =>
    obtain ⟨r, rfl, g⟩ := h
    exact .tup (sqT g) (.cons (.str _) (.cons (.int _) .nil))
theorem dpAll_of {α : Type} {f : α → PyData} : ∀ {vs : List V} {xs : List α}, vs.length = xs.length → (∀ (i : Nat) (v : V) (x : α), vs[i]? = some v → xs[i]? = some x → Dp K H v (f x)) → DpAll K H vs (xs.map f)
  | [], [], _, _ => .nil
  | [], _ :: _, h, _ => by cases h
  | _ :: _, [], h, _ => by cases h
  | v :: vs, x :: xs, h, k => .cons (k 0 v x rfl rfl) (dpAll_of (by simpa using h) fun i w y a b => k (i + 1) w y a b)
theorem dp_tks {vs : List V} {ts : List Tk} (h : TksAt H vs ts) : DpAll K H vs (ts.map tkD) := dpAll_of h.1 fun i v t a b => dp_tk (h.2 i v t a b)
theorem dp_ask {v : V} {q : Ask3} (h : AskAt H v q) : Dp K H v (askD q) := by
  obtain ⟨r, rfl, g⟩ := h
  exact .tup (sqT g) (.cons (.int _) (.cons (.int _) (.cons (.int _) .nil)))
theorem dp_asks {vs : List V} {qs : List Ask3} (h : AsksAt H vs qs) : DpAll K H vs (qs.map askD) := dpAll_of h.1 fun i v t a b => dp_ask (h.2 i v t a b)
end
theorem tkD_can (t : Tk) : (tkD t).canLay0 = true ∧ (tkD t).depth ≤ 1 := by cases t <;> simp [tkD, PyData.canLay0, PyData.canLayAll0, PyData.depth, PyData.depthAll] <;> decide +kernel
theorem tkD_nob (t : Tk) : nob (tkD t) = true := by cases t <;> simp [tkD, nob, nobAll]
theorem askD_can (q : Ask3) : (askD q).canLay0 = true ∧ (askD q).depth ≤ 1 := by simp [askD, PyData.canLay0, PyData.canLayAll0, PyData.depth, PyData.depthAll]
theorem askD_nob (q : Ask3) : nob (askD q) = true := by simp [askD, nob, nobAll]
theorem tks_shaped (ts : List Tk) : SeqAt.shaped (.list (ts.map tkD)) = true := shaped_map (m := 1) (by decide) (fun t => (tkD_can t).1) (fun t => (tkD_can t).2) ts
theorem asks_shaped (qs : List Ask3) : SeqAt.shaped (.list (qs.map askD)) = true := shaped_map (m := 1) (by decide) (fun t => (askD_can t).1) (fun t => (askD_can t).2) qs
/-- a thing's kind -/
def Tk.ty : Tk → String
  | .cells _ => "int"
  | .fit => "str"
  | .share _ => "tuple"
theorem TkAt.t7 {H : Hp} {v : V} {t : Tk} (h : TkAt H v t) : Ty7 H v t.ty := by
  cases t with
  | cells n =>
    have e : v = .int n := h
    subst e; exact .int n
  | fit =>
    have e : v = .str "fit" := h
    subst e; exact .str _
  | share k =>
    obtain ⟨r, rfl, g⟩ := h
    exact .tup g
theorem TkAt.isI {H : Hp} {v : V} {t : Tk} (h : TkAt H v t) : isI v = !t.free := by
  cases t with
  | cells n =>
    have e : v = .int n := h
    subst e; rfl
  | fit =>
    have e : v = .str "fit" := h
    subst e; rfl
  | share k =>
    obtain ⟨r, rfl, g⟩ := h
    rfl
theorem free_nats {ts : List Tk} {f m : Nat} : ((List.range m).filter fun i => tkF ts (f + i)).map (fun i : Nat => V.int ((f : Int) + (i : Int))) = natsV (freeL ts f m) := by
  unfold freeL natsV
  rw [List.filter_map, List.map_map]
  refine List.map_congr_left fun i _ => ?_
  show _ = V.int ((f + i : Nat) : Int)
  rw [Int.natCast_add]
theorem cut_ints (ss : List Int) (f m : Nat) : cutV (ss.map V.int) (some (f : Int)) (some ((f : Int) + (m : Int))) = ((ss.take (f + m)).drop f).map V.int := by
  rw [← Int.natCast_add, cutV_mid _ _ _ (by omega), ← List.map_take, ← List.map_drop]
theorem growM_skip {n : Nat} {ts : List Tk} {ss g : List Int} {f m : Nat} {wanted : Int} (hl : ¬ 0 < wanted - sliceSum ss f m) (hg : ∀ z ∈ g, 0 ≤ z) (lg : g.length = n) : growM n ts ss g f m wanted = g := by
  refine list_ext_wAt (by rw [growM_len, lg]) fun i hi => ?_
  rw [growM_len] at hi
  rw [growM_at hi]
  exact (growP_skip hl (hg _ (wAt_mem (by omega)))).symm
abbrev growL (n : Nat) (ts : List Tk) (ss g : List Int) (f m : Nat) (wanted : Int) (p : Nat) : List Int := (List.range n).map (growP ts ss g f m wanted p)
theorem growL_zero {n : Nat} {ts : List Tk} {ss g : List Int} {f m : Nat} {wanted : Int} (lg : g.length = n) : growL n ts ss g f m wanted 0 = g := by
  refine list_ext_wAt (by rw [List.length_map, List.length_range, lg]) fun i hi => ?_
  rw [List.length_map, List.length_range] at hi
  unfold wAt
  rw [List.getD_eq_getElem?_getD, List.getElem?_map, range_get hi]
  show growP ts ss g f m wanted 0 i = _
  rw [growP_zero]; rfl
theorem growL_end {n : Nat} {ts : List Tk} {ss g : List Int} {f m : Nat} {wanted : Int} (hl : 0 < wanted - sliceSum ss f m) (hg : ∀ z ∈ g, 0 ≤ z) (lg : g.length = n) : growL n ts ss g f m wanted (freeL ts f m).length = growM n ts ss g f m wanted := by
  unfold growL growM
  refine List.map_congr_left fun i hi => ?_
  have hi := List.mem_range.mp hi
  exact growP_end hl (hg _ (wAt_mem (by omega)))
theorem growL_at {n : Nat} {ts : List Tk} {ss g : List Int} {f m : Nat} {wanted : Int} {p c : Nat} (hc : c < n) : ((growL n ts ss g f m wanted p).map V.int)[c]? = some (.int (growP ts ss g f m wanted p c)) := by
  rw [List.getElem?_map, List.getElem?_map, range_get hc]; rfl
theorem growL_set {n : Nat} {ts : List Tk} {ss g : List Int} {f m : Nat} {wanted : Int} {p c : Nat} (h : (freeL ts f m)[p]? = some c) :
    ((growL n ts ss g f m wanted p).map V.int).set c (.int (max (growP ts ss g f m wanted p c) (partA (wanted - sliceSum ss f m) (freeL ts f m).length p))) = (growL n ts ss g f m wanted (p + 1)).map V.int := by
  apply List.ext_getElem?
  intro i
  rw [List.getElem?_set, List.getElem?_map, List.getElem?_map, List.getElem?_map, List.getElem?_map]
  by_cases hi : i < n
  · rw [range_get hi]
    by_cases hci : c = i
    · subst hci
      rw [if_pos rfl, if_pos (by rw [List.length_map, List.length_map, List.length_range]; exact hi)]
      show _ = some (V.int (growP ts ss g f m wanted (p + 1) c))
      rw [growP_succ h, if_pos rfl]
    · rw [if_neg hci]
      show some (V.int (growP ts ss g f m wanted p i)) = some (V.int (growP ts ss g f m wanted (p + 1) i))
      rw [growP_succ h, if_neg (fun e => hci e.symm)]
  · rw [List.getElem?_eq_none (by rw [List.length_range]; omega)]
    by_cases hci : c = i
    · subst hci
      rw [if_pos rfl, if_neg (by rw [List.length_map, List.length_map, List.length_range]; exact hi)]; rfl
    · rw [if_neg hci]; rfl
theorem AskAt.but {H H' : Hp} {v : V} {q : Ask3} {a : Addr} {xs : List V} (h : AskAt H v q) (g : H a = some (.lst xs)) (b : But a H H') : AskAt H' v q := let ⟨r, e, g2⟩ := h; ⟨r, e, b.app (fun z => by rw [z, g] at g2; cases g2) g2⟩
theorem grow1_nonneg {n : Nat} {ts : List Tk} {gap : Int} {ss : List Int} {many : Nat} {g : List Int} {q : Ask3} (h : ∀ z ∈ g, 0 ≤ z) : ∀ z ∈ grow1 n ts gap ss many g q, 0 ≤ z := fun z hz => by
  unfold grow1 at hz
  split at hz
  · unfold growM at hz
    obtain ⟨i, _, rfl⟩ := List.mem_map.mp hz
    have := pA_nonneg ts ss q.1 q.2.1 (q.2.2 - gap * ((many : Int) - 1)) i
    omega
  · exact h z hz
theorem grown_nonneg {n : Nat} {ts : List Tk} {gap : Int} {ss : List Int} {many : Nat} : ∀ (qs : List Ask3) (g : List Int), (∀ z ∈ g, 0 ≤ z) → ∀ z ∈ qs.foldl (grow1 n ts gap ss many) g, 0 ≤ z
  | [], g, h => h
  | q :: qs, g, h => grown_nonneg qs _ (grow1_nonneg h)
theorem foldl_take {α β : Type} {f : β → α → β} {l : List α} {x : β} {i : Nat} {a : α} (h : l[i]? = some a) : (l.take (i + 1)).foldl f x = f ((l.take i).foldl f x) a := by
  rw [List.take_add_one, h, List.foldl_append]; rfl
theorem stepM_V {ts : List Tk} {qs : List Ask3} {gap : Int} {ss : List Int} {many : Nat} : (List.range ts.length).map (fun i => V.int (wAt ss i + wAt (grownM ts qs gap ss many) i)) = (stepM ts qs gap ss many).map V.int := by
  unfold stepM
  rw [List.map_map]; rfl
theorem AsksAt.but {H H' : Hp} {vs : List V} {qs : List Ask3} {a : Addr} {xs : List V} (h : AsksAt H vs qs) (g : H a = some (.lst xs)) (b : But a H H') : AsksAt H' vs qs := ⟨h.1, fun i v q x y => (h.2 i v q x y).but g b⟩
theorem TksAt.dr {H H' : Hp} {vs : List V} {ts : List Tk} {a : Addr} (h : TksAt H vs ts) (hs : Src H a) (d : Dr a H H') : TksAt H' vs ts := let ⟨_, e⟩ := hs; h.but e d.b
theorem AsksAt.dr {H H' : Hp} {vs : List V} {qs : List Ask3} {a : Addr} (h : AsksAt H vs qs) (hs : Src H a) (d : Dr a H H') : AsksAt H' vs qs := let ⟨_, e⟩ := hs; h.but e d.b
theorem TkAt.dr {H H' : Hp} {v : V} {t : Tk} {a : Addr} (h : TkAt H v t) (hs : Src H a) (d : Dr a H H') : TkAt H' v t := let ⟨_, e⟩ := hs; h.but e d.b
theorem AsksAt.snoc {H : Hp} {vs : List V} {qs : List Ask3} {v : V} {q : Ask3} (h : AsksAt H vs qs) (hv : AskAt H v q) : AsksAt H (vs ++ [v]) (qs ++ [q]) := by
  have l := h.1
  refine ⟨by simp [l], fun i x y hx hy => ?_⟩
  by_cases hi : i < vs.length
  · rw [List.getElem?_append_left hi] at hx
    rw [List.getElem?_append_left (by omega)] at hy
    exact h.2 i x y hx hy
  · have : i = vs.length := by
      have := (List.getElem?_eq_some_iff.mp hx).1
      simp at this; omega
    subst this
    rw [List.getElem?_concat_length] at hx
    rw [l, List.getElem?_concat_length] at hy
    cases hx; cases hy; exact hv
theorem both_shaped (ts : List Tk) (qs : List Ask3) : SeqAt.shaped (.list [.list (ts.map tkD), .list (qs.map askD)]) = true := by
  unfold SeqAt.shaped
  have c1 := canLayAll0_map (g := tkD) (fun x => (tkD_can x).1) ts
  have c2 := canLayAll0_map (g := askD) (fun x => (askD_can x).1) qs
  have d1 := depthAll_map (g := tkD) (m := 1) (fun x => (tkD_can x).2) ts
  have d2 := depthAll_map (g := askD) (m := 1) (fun x => (askD_can x).2) qs
  rw [Bool.and_eq_true]
  refine ⟨by simp only [PyData.canLay0, PyData.canLayAll0, c1, c2, Bool.and_self], decide_eq_true ?_⟩
  simp only [PyData.depth, PyData.depthAll]; omega
theorem both_same (ts : List Tk) (qs : List Ask3) : PyData.eqv (.list [.list (ts.map tkD), .list (qs.map askD)]) (.list [.list (ts.map tkD), .list (qs.map askD)]) = true := by
  have n : nob (.list [.list (ts.map tkD), .list (qs.map askD)]) = true := by
    have h1 := nobAll_map (g := tkD) tkD_nob ts
    have h2 := nobAll_map (g := askD) askD_nob qs
    simp only [nob, nobAll, h1, h2, Bool.and_self]
  exact (eqv_iff n n).mpr rfl
end My

/-! ### tracks: asks reached, asks in another order: plain mathematics -/
namespace My
open PySem L2
theorem trackM_rev (ts : List Tk) (qs : List Ask3) (gap : Int) : trackM ts qs.reverse gap = trackM ts qs gap := by
  have h : ∀ ss many, stepM ts qs.reverse gap ss many = stepM ts qs gap ss many := fun ss many => by
    unfold stepM
    refine List.map_congr_left fun i hi => ?_
    have hi := List.mem_range.mp hi
    rw [grownM_at hi, grownM_at hi]
    congr 1
    refine maxF_perm fun y => ?_
    unfold dealsA
    rw [List.filter_reverse, List.map_reverse, List.mem_reverse]
  unfold trackM
  have e : (fun s k => stepM ts qs.reverse gap s (k + 1)) = (fun s k => stepM ts qs gap s (k + 1)) := by
    funext s k
    exact h s (k + 1)
  rw [e]
abbrev seg (f m : Nat) : List Nat := (List.range m).map fun k => f + k
theorem seg_mem {f m i : Nat} : i ∈ seg f m ↔ f ≤ i ∧ i < f + m := by
  rw [List.mem_map]
  constructor
  · rintro ⟨k, hk, rfl⟩
    have := List.mem_range.mp hk
    omega
  · intro h
    exact ⟨i - f, List.mem_range.mpr (by omega), by omega⟩
theorem slice_S {ss : List Int} {f : Nat} : ∀ {m : Nat}, f + m ≤ ss.length → sliceSum ss f m = S (wAt ss) (seg f m) := by
  intro m
  induction m with
  | zero => intro _; unfold sliceSum; simp [S]
  | succ m ih =>
    intro h
    have h2 := ih (by omega)
    have e1 : seg f (m + 1) = seg f m ++ [f + m] := by unfold seg; rw [List.range_succ, List.map_append]; rfl
    rw [e1, S_append, ← h2]
    unfold sliceSum
    have e2 : (ss.take (f + (m + 1))) = ss.take (f + m) ++ [wAt ss (f + m)] := by
      rw [← Nat.add_assoc, List.take_add_one, List.getElem?_eq_getElem (by omega : f + m < ss.length)]
      congr 1
      unfold wAt
      rw [List.getD_eq_getElem?_getD, List.getElem?_eq_getElem (by omega : f + m < ss.length)]; rfl
    rw [e2, List.drop_append_of_le_length (by rw [List.length_take]; omega), List.sum_append]
    rfl
theorem parts_all (lack : Int) {L : Nat} (hL : 0 < L) : S (fun j => partA lack L j) (List.range L) = lack := by
  have key : ∀ n, S (fun j => partA lack L j) (List.range n) = lack * (n : Int) / (L : Int) := by
    intro n
    induction n with
    | zero => simp [S]
    | succ n ih =>
      rw [List.range_succ, S_append, ih, S_cons, S_nil]
      unfold partA
      have : ((n + 1 : Nat) : Int) = (n : Int) + 1 := by omega
      rw [this]; omega
  rw [key, Int.mul_ediv_cancel _ (by omega)]
theorem pA_sum {ts : List Tk} {ss : List Int} {f m : Nat} {wanted : Int} (hl : 0 < wanted - sliceSum ss f m) (hne : freeL ts f m ≠ []) : S (pA ts ss f m wanted) (seg f m) = wanted - sliceSum ss f m := by
  have hL : 0 < (freeL ts f m).length := List.length_pos_iff.mpr hne
  rw [S_split _ (tkF ts)]
  have e0 : S (pA ts ss f m wanted) ((seg f m).filter fun i => !tkF ts i) = 0 := by
    have : S (pA ts ss f m wanted) ((seg f m).filter fun i => !tkF ts i) = S (fun _ => 0 * 0) ((seg f m).filter fun i => !tkF ts i) := S_congr fun i hi => by
      have h := (List.mem_filter.mp hi).2
      unfold pA
      rw [if_neg (fun z => ?_)]; rfl
      have := (freeL_mem.mp z.1).2.2
      rw [this] at h; cases h
    rw [this, S_mul, Int.zero_mul]
  have e1 : S (pA ts ss f m wanted) ((seg f m).filter (tkF ts)) = S (fun j => partA (wanted - sliceSum ss f m) (freeL ts f m).length j) (List.range (freeL ts f m).length) := by
    show ((freeL ts f m).map _).sum = _
    unfold S
    congr 1
    apply List.ext_getElem?
    intro j
    rw [List.getElem?_map, List.getElem?_map]
    by_cases hj : j < (freeL ts f m).length
    · rw [List.getElem?_eq_getElem hj, range_get hj]
      show some (pA ts ss f m wanted (freeL ts f m)[j]) = some _
      unfold pA
      rw [if_pos ⟨List.getElem_mem _, hl⟩, idxOf_at (freeL_nodup ts f m) (List.getElem?_eq_getElem hj)]
    · rw [List.getElem?_eq_none (by omega), List.getElem?_eq_none (by rw [List.length_range]; omega)]; rfl
  rw [e0, e1, parts_all _ hL]; omega
theorem step_ge {ts : List Tk} {qs : List Ask3} {gap : Int} {k i : Nat} (hi : i < ts.length) : wAt (stepsM ts qs gap k) i ≤ wAt (stepsM ts qs gap (k + 1)) i := by
  rw [stepsM_succ, stepM_at hi, grownM_at hi]
  have : 0 ≤ maxF 0 (dealsA ts qs gap (stepsM ts qs gap k) (k + 1) i) := maxF_ge
  omega
theorem steps_ge {ts : List Tk} {qs : List Ask3} {gap : Int} {i : Nat} (hi : i < ts.length) : ∀ (d k : Nat), wAt (stepsM ts qs gap k) i ≤ wAt (stepsM ts qs gap (k + d)) i
  | 0, _ => Int.le_refl _
  | d + 1, k => Int.le_trans (steps_ge hi d k) (step_ge hi)
/-- each ask that has a track that isn't of so many cells has its size at least -/
theorem ask_reached {ts : List Tk} {qs : List Ask3} {gap : Int} {q : Ask3} (hq : q ∈ qs) (ok : AskOk ts.length q) (hne : freeL ts q.1 q.2.1 ≠ []) : q.2.2 ≤ sliceSum (trackM ts qs gap) q.1 q.2.1 + gap * ((q.2.1 : Int) - 1) := by
  obtain ⟨o1, o2, o3⟩ := ok
  obtain ⟨f, m, size⟩ := q
  have o1 : 1 ≤ m := o1
  obtain ⟨k, rfl⟩ : ∃ k, m = k + 1 := ⟨m - 1, by omega⟩
  have o1 : 1 ≤ k + 1 := o1
  have o2 : f + (k + 1) ≤ ts.length := o2
  show size ≤ sliceSum (trackM ts qs gap) f (k + 1) + gap * (((k + 1 : Nat) : Int) - 1)
  have hne : freeL ts f (k + 1) ≠ [] := hne
  have e : trackM ts qs gap = stepsM ts qs gap ((k + 1) + (ts.length - (k + 1))) := by
    rw [show (k + 1) + (ts.length - (k + 1)) = ts.length by omega]; rfl
  have l1 : ∀ j, (stepsM ts qs gap j).length = ts.length := stepsM_len ts qs gap
  rw [e, slice_S (by rw [l1]; exact o2)]
  have h1 : S (wAt (stepsM ts qs gap (k + 1))) (seg f (k + 1)) ≤ S (wAt (stepsM ts qs gap ((k + 1) + (ts.length - (k + 1))))) (seg f (k + 1)) := S_le fun i hi => by
    have := seg_mem.mp hi
    exact steps_ge (by omega) _ _
  obtain ⟨wd, hwd⟩ : ∃ wd, wd = size - gap * (((k + 1 : Nat) : Int) - 1) := ⟨_, rfl⟩
  have h2 : S (wAt (stepsM ts qs gap k)) (seg f (k + 1)) + S (pA ts (stepsM ts qs gap k) f (k + 1) wd) (seg f (k + 1)) ≤ S (wAt (stepsM ts qs gap (k + 1))) (seg f (k + 1)) := by
    have : S (fun i => wAt (stepsM ts qs gap k) i + pA ts (stepsM ts qs gap k) f (k + 1) wd i) (seg f (k + 1)) = S (wAt (stepsM ts qs gap k)) (seg f (k + 1)) + S (pA ts (stepsM ts qs gap k) f (k + 1) wd) (seg f (k + 1)) := by
      have add : ∀ R : List Nat, S (fun i => wAt (stepsM ts qs gap k) i + pA ts (stepsM ts qs gap k) f (k + 1) wd i) R = S (wAt (stepsM ts qs gap k)) R + S (pA ts (stepsM ts qs gap k) f (k + 1) wd) R := fun R => by
        induction R with
        | nil => rfl
        | cons i R ih => rw [S_cons, S_cons, S_cons, ih]; omega
      exact add _
    rw [← this]
    refine S_le fun i hi => ?_
    have hi := seg_mem.mp hi
    rw [stepsM_succ, stepM_at (by omega), grownM_at (by omega)]
    have : pA ts (stepsM ts qs gap k) f (k + 1) wd i ≤ maxF 0 (dealsA ts qs gap (stepsM ts qs gap k) (k + 1) i) := by
      refine maxF_all ?_
      unfold dealsA
      refine List.mem_map.mpr ⟨(f, k + 1, size), List.mem_filter.mpr ⟨hq, decide_eq_true rfl⟩, ?_⟩
      rw [hwd]
    omega
  have h3 : sliceSum (stepsM ts qs gap k) f (k + 1) = S (wAt (stepsM ts qs gap k)) (seg f (k + 1)) := slice_S (by rw [l1]; exact o2)
  by_cases hl : 0 < wd - sliceSum (stepsM ts qs gap k) f (k + 1)
  · rw [pA_sum hl hne] at h2
    omega
  · have h4 : 0 ≤ S (pA ts (stepsM ts qs gap k) f (k + 1) wd) (seg f (k + 1)) := S_nonneg fun i _ => pA_nonneg ..
    omega
theorem AsksAt.rev {H : Hp} {vs : List V} {qs : List Ask3} (h : AsksAt H vs qs) : AsksAt H vs.reverse qs.reverse := by
  have l := h.1
  refine ⟨by rw [List.length_reverse, List.length_reverse, l], fun i v q hv hq => ?_⟩
  have hi := (List.getElem?_eq_some_iff.mp hv).1
  rw [List.length_reverse] at hi
  rw [List.getElem?_reverse hi] at hv
  rw [List.getElem?_reverse (by omega), ← l] at hq
  exact h.2 _ v q hv hq
theorem natI_ne {l : List Nat} : (!decide (natI l = [])) = !decide (l = []) := by
  rw [decide_eq_decide.mpr natI_nil]
end My

/-! ### boxes and trees of boxes as they stand -/
namespace My
open PySem PySem.Spec PyProof.Rows L2
inductive Kd | words | picture | row | pile | grid
  deriving DecidableEq
/-- what a box has of its own -/
inductive Own
  | words (t : List Nat)
  | picture (a d : Int)
  | row (turn : Bool) (gap lane : Int) (pack stands : String)
  | pile (gap : Int) (pack stands : String)
  | grid (sp : List (Int × Int × Int × Int)) (cs rs : List Tk) (gap lane : Int) (stands : String)
def Own.kd : Own → Kd
  | .words _ => .words
  | .picture _ _ => .picture
  | .row .. => .row
  | .pile .. => .pile
  | .grid .. => .grid
/-- a tree: the box at x, its name, its style's values, its own, the boxes in it -/
inductive At
  | mk (x : Addr) (nm : List Nat) (st : List V) (o : Own) (kids : List At)
def At.x : At → Addr | .mk x _ _ _ _ => x
def At.nm : At → List Nat | .mk _ n _ _ _ => n
def At.st : At → List V | .mk _ _ s _ _ => s
def At.own : At → Own | .mk _ _ _ o _ => o
def At.kids : At → List At | .mk _ _ _ _ ks => ks
def refs (ks : List At) : List V := ks.map fun k => .ref k.x
/-- four numbers in a tuple -/
def SpAt (H : Hp) (v : V) (q : Int × Int × Int × Int) : Prop := ∃ p, v = .ref p ∧ H p = some (.tup [.int q.1, .int q.2.1, .int q.2.2.1, .int q.2.2.2])
def SpsAt (H : Hp) (vs : List V) (qs : List (Int × Int × Int × Int)) : Prop := vs.length = qs.length ∧ ∀ (i : Nat) (v : V) (q : Int × Int × Int × Int), vs[i]? = some v → qs[i]? = some q → SpAt H v q
inductive BoxAt (bc : Kd → Addr) (S : Addr) (K : PySem.W.Frag) (H : Hp) : At → Prop
  | words {x dx y dy : Addr} {nm t : List Nat} {st : List V} (hx : H x = some (.ins (bc .words) dx [("name", .str (sO nm)), ("text", .str (sO t)), ("style", .ref y)])) (hy : H y = some (.ins S dy (styL st))) (ok : OkL K H st) (hn : NameOk nm) (ht : t.length ≤ 10000) : BoxAt bc S K H (.mk x nm st (.words t) [])
  | picture {x dx y dy : Addr} {nm : List Nat} {a d : Int} {st : List V} (hx : H x = some (.ins (bc .picture) dx [("name", .str (sO nm)), ("across", .int a), ("down", .int d), ("style", .ref y)])) (hy : H y = some (.ins S dy (styL st))) (ok : OkL K H st) (hn : NameOk nm) (ha : 1 ≤ a) (hd : 1 ≤ d) : BoxAt bc S K H (.mk x nm st (.picture a d) [])
  | row {x dx y dy b : Addr} {nm : List Nat} {turn : Bool} {gap lane : Int} {pack stands : String} {st : List V} {kids : List At} (hx : H x = some (.ins (bc .row) dx [("name", .str (sO nm)), ("boxes", .ref b), ("turn", .bl turn), ("gap", .int gap), ("lane", .int lane), ("pack", sX pack), ("stands", sX stands), ("style", .ref y)]))
      (hy : H y = some (.ins S dy (styL st))) (ok : OkL K H st) (hn : NameOk nm) (g0 : 0 ≤ gap) (l0 : 0 ≤ lane) (hb : H b = some (.tup (refs kids))) (lk : kids.length ≤ 1000) (hk : ∀ k ∈ kids, BoxAt bc S K H k) : BoxAt bc S K H (.mk x nm st (.row turn gap lane pack stands) kids)
  | pile {x dx y dy b : Addr} {nm : List Nat} {gap : Int} {pack stands : String} {st : List V} {kids : List At} (hx : H x = some (.ins (bc .pile) dx [("name", .str (sO nm)), ("boxes", .ref b), ("gap", .int gap), ("pack", sX pack), ("stands", sX stands), ("style", .ref y)]))
      (hy : H y = some (.ins S dy (styL st))) (ok : OkL K H st) (hn : NameOk nm) (g0 : 0 ≤ gap) (hb : H b = some (.tup (refs kids))) (lk : kids.length ≤ 1000) (hk : ∀ k ∈ kids, BoxAt bc S K H k) : BoxAt bc S K H (.mk x nm st (.pile gap pack stands) kids)
  | grid {x dx y dy b pc pr ps : Addr} {nm : List Nat} {sp : List (Int × Int × Int × Int)} {cs rs : List Tk} {gap lane : Int} {stands : String} {st us vs ws : List V} {kids : List At} (hx : H x = some (.ins (bc .grid) dx [("name", .str (sO nm)), ("boxes", .ref b), ("columns", .ref pc), ("rows", .ref pr), ("spots", .ref ps), ("gap", .int gap), ("lane", .int lane), ("stands", sX stands), ("style", .ref y)]))
      (hy : H y = some (.ins S dy (styL st))) (ok : OkL K H st) (hn : NameOk nm) (g0 : 0 ≤ gap) (l0 : 0 ≤ lane) (hb : H b = some (.tup (refs kids))) (lk : kids.length ≤ 1000) (hk : ∀ k ∈ kids, BoxAt bc S K H k)
      (hc : H pc = some (.tup us)) (tc : TksAt H us cs) (oc : ∀ t ∈ cs, t.ok) (nc : cs ≠ []) (hr : H pr = some (.tup vs)) (tr : TksAt H vs rs) (or : ∀ t ∈ rs, t.ok) (nr : rs ≠ []) (hs : H ps = some (.tup ws)) (ts : SpsAt H ws sp) (lsp : sp.length = kids.length) (lcs : cs.length ≤ 1000) (lrs : rs.length ≤ 1000) : BoxAt bc S K H (.mk x nm st (.grid sp cs rs gap lane stands) kids)
/-- what is no list and no dict -/
def Still : HO → Prop
  | .lst _ => False
  | .dK _ => False
  | .dT _ => False
  | .ins _ _ [] => False
  | _ => True
/-- all but lists, dicts and bare instances stay -/
def KeepS (H H' : Hp) : Prop := ∀ (a : Addr) (o : HO), H a = some o → Still o → H' a = some o
section
variable {K : PySem.W.Frag} {H H1 H2 H' : Hp} {bc : Kd → Addr} {S : Addr}
theorem Same.ks (s : Same H H') : KeepS H H' := fun a o h _ => s a o h
theorem KeepS.refl : KeepS H H := fun a o h _ => h
theorem KeepS.trans (p : KeepS H H1) (q : KeepS H1 H2) : KeepS H H2 := fun a o h s => q a o (p a o h s) s
theorem KeepS.butL {l : Addr} {xs : List V} (p : KeepS H H1) (b : But l H1 H2) (h : H1 l = some (.lst xs)) : KeepS H H2 := fun a o e s => b a o (by rintro rfl; rw [p _ _ e s] at h; cases h; exact s) (p a o e s)
theorem KeepS.butT {l : Addr} {xs : List (List Key × V)} (p : KeepS H H1) (b : But l H1 H2) (h : H1 l = some (.dT xs)) : KeepS H H2 := fun a o e s => b a o (by rintro rfl; rw [p _ _ e s] at h; cases h; exact s) (p a o e s)
theorem KeepS.butK {l : Addr} {xs : List (Key × V)} (p : KeepS H H1) (b : But l H1 H2) (h : H1 l = some (.dK xs)) : KeepS H H2 := fun a o e s => b a o (by rintro rfl; rw [p _ _ e s] at h; cases h; exact s) (p a o e s)
theorem KeepS.new {l : Addr} (p : KeepS H H1) (b : But l H1 H2) (h : H l = none) : KeepS H H2 := fun a o e s => b a o (ne_of_none e h) (p a o e s)
theorem KeepS.same (p : KeepS H H1) (s : Same H1 H2) : KeepS H H2 := p.trans (Same.ks s)
theorem Dr.ks {s : Addr} (d : Dr s H H') (hs : Src H s) : KeepS H H' := let ⟨_, e⟩ := hs; KeepS.refl.butL d.b e
theorem KeepS.tup {a : Addr} {xs : List V} (p : KeepS H H') (h : H a = some (.tup xs)) : H' a = some (.tup xs) := p _ _ h True.intro
theorem KeepS.ins {a C d : Addr} {f : Str × V} {fs : List (Str × V)} (p : KeepS H H') (h : H a = some (.ins C d (f :: fs))) : H' a = some (.ins C d (f :: fs)) := p _ _ h True.intro
theorem KeepS.butE {x C d : Addr} (b : But x H H') (h : H x = some (.ins C d [])) : KeepS H H' := fun a o e s => b a o (by rintro rfl; rw [h] at e; cases e; exact s) e
theorem KeepS.butX {x C d : Addr} (p : KeepS H H1) (b : But x H1 H2) (h : H x = some (.ins C d [])) : KeepS H H2 := fun a o e s => b a o (by rintro rfl; rw [h] at e; cases e; exact s) (p a o e s)
theorem KeepS.sty {a C d : Addr} {st : List V} (p : KeepS H H') (ok : st.length = 10) (h : H a = some (.ins C d (styL st))) : H' a = some (.ins C d (styL st)) := by
  obtain ⟨w, h', lw, lh, mw, mh, g, s, r, q, rfl⟩ := ten ok
  exact p.ins h
theorem KeepS.sqT {a : Addr} {xs : List V} (p : KeepS H H') (h : SqT K H a xs) : SqT K H' a xs := by
  rcases h with (h | ⟨o, h⟩) | h
  · exact .inl (.inl (p.tup h))
  · exact .inl (.inr ⟨o, p _ _ h True.intro⟩)
  · exact .inr h
theorem KeepS.szAt {v : V} (p : KeepS H H') (h : SzAt H v) : SzAt H' v := by
  cases h with
  | non => exact .non
  | cells n => exact .cells n
  | part a n h => exact .part a n (p.tup h)
  | tie a l sd m hl hs h => exact .tie a l sd m hl hs (p.tup h)
theorem KeepS.okF {i : Nat} {v : V} (p : KeepS H H') (h : OkF K H i v) : OkF K H' i v :=
  match i, h with
  | 0, h => p.szAt h
  | 1, h => p.szAt h
  | 2, h => h
  | 3, h => h
  | 4, h => h
  | 5, h => h
  | 6, h => h
  | 7, h => h
  | 8, h => let ⟨a, n0, n1, n2, n3, e, g⟩ := h; ⟨a, n0, n1, n2, n3, e, p.sqT g⟩
  | _ + 9, h => h
theorem KeepS.okL {fs : List V} (p : KeepS H H') (h : OkL K H fs) : OkL K H' fs := ⟨h.1, fun i v e => p.okF (h.2 i v e)⟩
theorem KeepS.tks {us : List V} {ts : List Tk} (p : KeepS H H') (h : TksAt H us ts) : TksAt H' us ts := ⟨h.1, fun i v t a b => by
  have q := h.2 i v t a b
  cases t with
  | cells n => exact q
  | fit => exact q
  | share k => obtain ⟨r, e, g⟩ := q; exact ⟨r, e, p.tup g⟩⟩
theorem KeepS.sps {us : List V} {qs : List (Int × Int × Int × Int)} (p : KeepS H H') (h : SpsAt H us qs) : SpsAt H' us qs := ⟨h.1, fun i v q e1 e2 => let ⟨r, e, g⟩ := h.2 i v q e1 e2; ⟨r, e, p.tup g⟩⟩
theorem BoxAt.ks {t : At} (h : BoxAt bc S K H t) (p : KeepS H H') : BoxAt bc S K H' t := by
  induction h with
  | words hx hy ok hn ht => exact .words (p.ins hx) (p.sty ok.1 hy) (p.okL ok) hn ht
  | picture hx hy ok hn ha hd => exact .picture (p.ins hx) (p.sty ok.1 hy) (p.okL ok) hn ha hd
  | row hx hy ok hn g0 l0 hb lk hk ih => exact .row (p.ins hx) (p.sty ok.1 hy) (p.okL ok) hn g0 l0 (p.tup hb) lk ih
  | pile hx hy ok hn g0 hb lk hk ih => exact .pile (p.ins hx) (p.sty ok.1 hy) (p.okL ok) hn g0 (p.tup hb) lk ih
  | grid hx hy ok hn g0 l0 hb lk hk hc tc oc nc hr tr or nr hs ts lsp lcs lrs ih => exact .grid (p.ins hx) (p.sty ok.1 hy) (p.okL ok) hn g0 l0 (p.tup hb) lk ih (p.tup hc) (p.tks tc) oc nc (p.tup hr) (p.tks tr) or nr (p.tup hs) (p.sps ts) lsp lcs lrs
end
/-! #### what isinstance asks of the five classes -/
structure KdF (K : PySem.W.Frag) (bc : Kd → Addr) (B : Addr) : Prop where
  cl : ∀ k, Cls K (bc k)
  wc : ∀ k, PySem.W.findIn K (.ref (bc k)) "__class__" = some (some (.builtin "object.__class__"))
  wg : PySem.W.specialIn K (.builtin "object.__class__") "__get__" = some (some (.builtin "getset_descriptor.__get__"))
  wt : PySem.W.takesIn K (.builtin "object.__class__") = some true
  wm : ∀ k, PySem.W.mroIn K (bc k) (.type "object") = some true
  is_ : ∀ k j, PySem.W.kitOne K (.ref (bc k)) (.ref (bc j)) = some (decide (k = j))
  box : ∀ k, PySem.W.kitOne K (.ref (bc k)) (.ref B) = some true
  nm : ∀ k, PySem.W.findIn K (.ref (bc k)) "name" = some none
  sy : ∀ k, PySem.W.findIn K (.ref (bc k)) "style" = some none
/-- the box's object: its class, its fields -/
theorem BoxAt.ob {bc : Kd → Addr} {S : Addr} {K : PySem.W.Frag} {H : Hp} {t : At} (h : BoxAt bc S K H t) : ∃ (dx y dy : Addr) (fs : List (Str × V)), H t.x = some (.ins (bc t.own.kd) dx fs) ∧ fs.lookup (Str.ofString "name") = some (.str (sO t.nm)) ∧ fs.lookup (Str.ofString "style") = some (.ref y) ∧ H y = some (.ins S dy (styL t.st)) ∧ fs.lookup (Str.ofString "held_boxes") = none ∧ NameOk t.nm ∧ OkL K H t.st := by
  cases h with
  | words hx hy ok hn ht => exact ⟨_, _, _, _, hx, rfl, rfl, hy, rfl, hn, ok⟩
  | picture hx hy ok hn ha hd => exact ⟨_, _, _, _, hx, rfl, rfl, hy, rfl, hn, ok⟩
  | row hx hy ok hn g0 l0 hb lk hk => exact ⟨_, _, _, _, hx, rfl, rfl, hy, rfl, hn, ok⟩
  | pile hx hy ok hn g0 hb lk hk => exact ⟨_, _, _, _, hx, rfl, rfl, hy, rfl, hn, ok⟩
  | grid hx hy ok hn g0 l0 hb lk hk hc tc oc nc hr tr or nr hs ts lsp lcs lrs => exact ⟨_, _, _, _, hx, rfl, rfl, hy, rfl, hn, ok⟩
theorem BoxAt.tyx {bc : Kd → Addr} {S B : Addr} {K : PySem.W.Frag} {H : Hp} {t : At} (h : BoxAt bc S K H t) (F : KdF K bc B) : TyX K H (.ref t.x) (.ref (bc t.own.kd)) := by
  obtain ⟨dx, y, dy, fs, hx, _⟩ := h.ob
  exact .base (.ins hx (F.cl _) (F.wc _) F.wg F.wt (F.wm _))
theorem BoxAt.kid {bc : Kd → Addr} {S : Addr} {K : PySem.W.Frag} {H : Hp} {t : At} (h : BoxAt bc S K H t) : ∀ k ∈ t.kids, BoxAt bc S K H k := by
  cases h with
  | words hx hy ok hn ht => exact fun k m => by cases m
  | picture hx hy ok hn ha hd => exact fun k m => by cases m
  | row hx hy ok hn g0 l0 hb lk hk => exact hk
  | pile hx hy ok hn g0 hb lk hk => exact hk
  | grid hx hy ok hn g0 l0 hb lk hk hc tc oc nc hr tr or nr hs ts lsp lcs lrs => exact hk
theorem BoxAt.few {bc : Kd → Addr} {S : Addr} {K : PySem.W.Frag} {H : Hp} {t : At} (h : BoxAt bc S K H t) : t.kids.length ≤ 1000 := by
  cases h with
  | words hx hy ok hn ht => exact Nat.zero_le _
  | picture hx hy ok hn ha hd => exact Nat.zero_le _
  | row hx hy ok hn g0 l0 hb lk hk => exact lk
  | pile hx hy ok hn g0 hb lk hk => exact lk
  | grid hx hy ok hn g0 l0 hb lk hk hc tc oc nc hr tr or nr hs ts lsp lcs lrs => exact lk
/-! #### in order, each with its holder's name -/
mutual
def At.pre : At → V → List (Addr × List Nat × V)
  | .mk x nm _ _ ks, h => (x, nm, h) :: preL ks (.str (sO nm))
def preL : List At → V → List (Addr × List Nat × V)
  | [], _ => []
  | k :: ks, h => k.pre h ++ preL ks h
end
mutual
def At.depth : At → Nat
  | .mk _ _ _ _ ks => depthL ks + 1
def depthL : List At → Nat
  | [] => 0
  | k :: ks => max k.depth (depthL ks)
end
theorem preL_app : ∀ (a b : List At) (h : V), preL (a ++ b) h = preL a h ++ preL b h
  | [], b, h => by rw [List.nil_append, preL, List.nil_append]
  | k :: a, b, h => by rw [List.cons_append, preL, preL, preL_app a b h, List.append_assoc]
theorem preL_snoc {ks : List At} {i : Nat} {k : At} (h : ks[i]? = some k) (v : V) : preL (ks.take (i + 1)) v = preL (ks.take i) v ++ k.pre v := by
  rw [List.take_add_one, h, preL_app]
  show preL _ v ++ preL [k] v = _
  rw [preL, preL, List.append_nil]
theorem preL_le (ks : List At) (i : Nat) (v : V) : (preL (ks.take i) v).length ≤ (preL ks v).length := by
  conv => rhs; rw [← List.take_append_drop i ks, preL_app, List.length_append]
  omega
theorem At.pre_eq (t : At) (h : V) : t.pre h = (t.x, t.nm, h) :: preL t.kids (.str (sO t.nm)) := by
  cases t; rw [At.pre]; rfl
theorem At.depth_eq (t : At) : t.depth = depthL t.kids + 1 := by
  cases t; rw [At.depth]; rfl
theorem depth_kid {k : At} : ∀ {ks : List At}, k ∈ ks → k.depth ≤ depthL ks
  | j :: ks, m => by
    rw [depthL]
    rcases List.mem_cons.mp m with rfl | m
    · exact Nat.le_max_left _ _
    · exact Nat.le_trans (depth_kid m) (Nat.le_max_right _ _)
/-! #### a method of one name in each of the classes -/
structure HeldM (P : Program) (w : World) (K : PySem.W.Frag) (mg : Str → Option Value) (base : Heap) (k : Nat) (C : Addr) (m : Str) (sp : Sp) : Prop where
  ex : ∃ (f : Addr) (fd : FuncData) (ps : List Str), Cls K C ∧ Meth K C m f ∧ FnOk P w K mg base CX0 k f fd ps sp ∧ Binds K fd ps []
def tMethK (bc : Kd → Addr) (m : Str) (sp : Kd → Sp) (ta : TE) : TE := fun σ H Q => ta σ H fun x H1 => ∃ a kd dx fs, x = .ref a ∧ H1 a = some (.ins (bc kd) dx fs) ∧ fs.lookup m = none ∧ sp kd [x] H1 Q E0
section
variable {X : Cx} {k : Nat} {bc : Kd → Addr} {sp : Kd → Sp} {m : Str} {pos apos : Pos} {o : Expr} {ta : TE}
theorem pe_methK {pl : Sem Bool} (he : PE X o ta) (A : ∀ kd, HeldM X.prog X.w X.K X.mg X.base k (bc kd) m (sp kd)) (hr : Room k X.A)
    (ht : eval (.Call (.Attribute o m apos) [] [] pos) X.env = (do
      let ov ← eval o X.env
      standAt apos.atName
      let (f, first) ← holding [ov] (getMethod ov m pl)
      callWith pos f first (backTo pos (starEach [] X.env)) (backToKw pos (keywordEach [] X.env))) := by rfl) :
    PE X (.Call (.Attribute o m apos) [] [] pos) (tMethK bc m sp ta) := by
  refine ⟨fun pins s σ H Q I h => ?_⟩
  refine PySem.W.methodCall_KW (pl := pl) (thn (he.run pins s σ H _ I h) fun u s1 ⟨x, H1, I1, rx, a, kd, dx, fs, ex, ea, l, q⟩ => ?_) ht
  subst ex
  obtain rfl : u = Value.ref a := rx
  obtain ⟨f, fd, ps, c, hm, F, hb⟩ := (A kd).ex
  refine getmeth_ok I1 ea c hm l ?_
  exact PySem.W.callWith_K0 (first := [.ref a]) I1.kIn hm.kp (run_fn (us := [.ref a]) (vs := [.ref a]) (dvs := []) F hr hb .nil pass0 I1 (.cons rfl .nil) q)
end
end My
namespace My
open PySem PySem.Spec PyProof.Rows L2
/-- what may be handed in as a style: nothing, or a style's object -/
def StyAt (K : PySem.W.Frag) (H : Hp) (S U : Addr) (v : V) : Prop := v = .non ∨ ∃ (y dy : Addr) (st : List V), v = .ref y ∧ H y = some (.ins S dy (styL st)) ∧ OkL K H st
/-- the values that the box's style has then -/
def StyIs (K : PySem.W.Frag) (H : Hp) (S U : Addr) (v : V) (st : List V) : Prop := (v = .non ∧ st = dfltL U) ∨ ∃ (y dy : Addr), v = .ref y ∧ H y = some (.ins S dy (styL st))
/-- the style's step in an __init__: what checked_style asks -/
theorem sty_step {K : PySem.W.Frag} {H H3 : Hp} {S U : Addr} {sv : V} {R : Addr → Hp → Prop} (hs : StyAt K H S U sv) (t : ∀ H, SqT K H U [.int 0, .int 0, .int 0, .int 0]) (p : KeepS H H3)
    (k : ∀ (y dy : Addr) (st : List V) (H' : Hp), Same H3 H' → StyIs K H S U sv st → H' y = some (.ins S dy (styL st)) → st.length = 10 → (∀ H4, KeepS H H4 → OkL K H4 st) → R y H') :
    (sv = .non ∧ ∀ (y dy : Addr) H', Same H3 H' → H' y = some (.ins S dy (styL (dfltL U))) → R y H') ∨ ∃ (y dy : Addr) (st : List V), sv = .ref y ∧ H3 y = some (.ins S dy (styL st)) ∧ R y H3 := by
  rcases hs with rfl | ⟨y, dy, st, rfl, hy, ok⟩
  · exact .inl ⟨rfl, fun y dy H' s g => k y dy _ H' s (.inl ⟨rfl, rfl⟩) g rfl fun H4 _ => dflt_ok t⟩
  · exact .inr ⟨y, dy, st, rfl, p.sty ok.1 hy, k y dy st H3 (Same.refl _) (.inr ⟨y, dy, rfl, hy⟩) (p.sty ok.1 hy) ok.1 fun H4 q => q.okL ok⟩
theorem sty_ne {H : Hp} {x y S C dx dy : Addr} {st : List V} {fs : List (Str × V)} (gy : H y = some (.ins S dy (styL st))) (ok : st.length = 10) (gx : H x = some (.ins C dx fs)) (n : fs.length ≠ 10) : y ≠ x := by
  rintro rfl
  rw [gx] at gy
  cases gy
  exact n (by unfold styL; rw [List.length_zip, ok]; rfl)
/-- the boxes right in a box -/
def sp_held (bc : Kd → Addr) (S : Addr) (K : PySem.W.Frag) (kd : Kd) : Sp := fun vs H Q _ => ∃ t : At, vs = [.ref t.x] ∧ BoxAt bc S K H t ∧ t.own.kd = kd ∧ ∀ b H', Same H H' → H' b = some (.tup (refs t.kids)) → Q (.ref b) H'
def sp_held2 (bc : Kd → Addr) (S : Addr) (K : PySem.W.Frag) : Sp := fun vs H Q _ => ∃ t : At, vs = [.ref t.x] ∧ BoxAt bc S K H t ∧ (t.own.kd = .words ∨ t.own.kd = .picture) ∧ ∀ b H', Same H H' → H' b = some (.tup (refs t.kids)) → Q (.ref b) H'
theorem BoxAt.leaf {bc : Kd → Addr} {S : Addr} {K : PySem.W.Frag} {H : Hp} {t : At} (h : BoxAt bc S K H t) (k : t.own.kd = .words ∨ t.own.kd = .picture) : t.kids = [] := by
  cases h with
  | words hx hy ok hn ht => rfl
  | picture hx hy ok hn ha hd => rfl
  | row => rcases k with k | k <;> cases k
  | pile => rcases k with k | k <;> cases k
  | grid => rcases k with k | k <;> cases k
end My
namespace My
open PySem PySem.Spec PyProof.Rows L2
theorem kdct_mk {K : PySem.W.Frag} {w : World} {a C : Addr} {x : Str} {es : Array DictEntry} {n : Nat} (l : K.lookup a = some ⟨.type "dict", none, .dict es n, #[]⟩) (k : PySem.W.KeysLit w.params es.toList) (e : PySem.W.nsIn K a x = some (some (.ref C))) : KDct K w a x (.ref C) := ⟨es, n, _, l, k, e, rfl⟩
theorem ix_kdictK {X : Cx} {K : PySem.W.Frag} {w : World} (h : X.K = K) (hw : X.w = w) : IxR X (rIxD K w) := by subst h hw; exact ix_kdict
end My
namespace My
open PySem PySem.Spec PyProof.Rows L2
/-- a def with keyword-only defaults -/
def dfKs_mk {K : PySem.W.Frag} {mg : Str → Option Value} {x : Str} {st : Stmt} {ps : List Str} {kws : List (Str × V)} {h : Heap} (X : K.In h) (G : h.Ns mainGlobals mg) {f D : Addr} {oc : Value} {od an : Option Addr} {osl : Array (Option Value)} {doc pm cdv ct : Value} (n : Nat)
    (a : PySem.W.nsIn K mainGlobals x = some (some (.ref f))) (l : K.lookup f = some ⟨oc, od, .func (PySem.W.fnOf x x (defArgs st) (defBody st) (defScope st) .none (.ref D) doc pm an cdv ct), osl⟩)
    (c : PySem.W.codeIn K cdv x = true) (k : PySem.W.keepIn K (.ref f) = true) (kw : KwIn K D kws) (hk : kws ≠ []) (hn : n + kws.length = ps.length)
    (hb : ∀ (D : Addr) (doc pm : Value) (an : Option Addr) (cdv ct : Value) (us ks : List Value), us.length = n → ks.length = kws.length →
      KwChain D ((kws.map (·.1)).zip ks) (bindArgs (PySem.W.fnOf x x (defArgs st) (defBody st) (defScope st) .none (.ref D) doc pm an cdv ct) ⟨us, []⟩) (ps.zip (us ++ ks))) : DfK K mg x st ps kws :=
  have F : FunD K x x (defArgs st) (defBody st) (defScope st) [] kws f (PySem.W.fnOf x x (defArgs st) (defBody st) (defScope st) .none (.ref D) doc pm an cdv ct) := ⟨⟨oc, od, .none, .ref D, doc, pm, an, cdv, ct, osl, rfl, l, c, .inl ⟨rfl, rfl⟩, .inr ⟨D, rfl, kw.all⟩⟩, k⟩
  ⟨f, _, F, F.binds0 n hk hn hb, PySem.W.mg_of X G a⟩
end My
namespace My
open PySem PySem.Spec PyProof.Rows L2
/-- an __init__ without defaults -/
structure Ini0 (K : PySem.W.Frag) (q : Str) (st : Stmt) (C : Addr) (ps : List Str) where
  f : Addr
  fd : FuncData
  F : Fun K "__init__" q st f fd
  b : Binds K fd ps []
  mks : Mk K C f
def ini0_mk {K : PySem.W.Frag} {q : Str} {st : Stmt} {C : Addr} {ps : List Str} {f : Addr} {oc : Value} {od an : Option Addr} {osl : Array (Option Value)} {kV doc pm cdv ct : Value}
    (i : PySem.W.findIn K (.ref C) "__init__" = some (some (.ref f))) (m : PySem.W.makesIn K C = true) (fn : PySem.W.isFn K (.ref f) = true) (kc : PySem.W.keepIn K (.ref C) = true)
    (l : K.lookup f = some ⟨oc, od, .func (PySem.W.fnOf "__init__" q (defArgs st) (defBody st) (defScope st) .none kV doc pm an cdv ct), osl⟩) (c : PySem.W.codeIn K cdv q = true) (k : PySem.W.keepIn K (.ref f) = true)
    (hb : ∀ (kV doc pm : Value) (an : Option Addr) (cdv ct : Value) (us : List Value), us.length = ps.length → bindArgs (PySem.W.fnOf "__init__" q (defArgs st) (defBody st) (defScope st) .none kV doc pm an cdv ct) ⟨us, []⟩ = pure (ps.zip us)) : Ini0 K q st C ps :=
  ⟨f, _, fun_mk l c k, (fun_mk l c k).binds hb, ⟨m, i, fn, kc⟩⟩
end My

namespace My
open PySem PySem.Spec PyProof.Rows L2
def top (i : Nat) : Stmt := PySem.Challenge.pw_nestlaid_k54_what_is_asked.main.body.getD i (.Pass ⟨0, 0, 0, 0⟩)
abbrev s_NoText_init : Stmt := inClass (top 4) 0
abbrev N_NoText_init : List Str := ["self", "why", "line"]
theorem sc_NoText_init : FnScope N_NoText_init ["self", "why", "line"] (defScope s_NoText_init) := ⟨rfl, rfl, rfl, by decide +kernel, rfl, by decide +kernel, by decide +kernel⟩
abbrev s_is_whole : Stmt := top 17
abbrev N_is_whole : List Str := ["thing"]
theorem sc_is_whole : FnScope N_is_whole ["thing"] (defScope s_is_whole) := ⟨rfl, rfl, rfl, by decide +kernel, rfl, by decide +kernel, by decide +kernel⟩
abbrev s_is_count : Stmt := top 21
abbrev N_is_count : List Str := ["thing"]
theorem sc_is_count : FnScope N_is_count ["thing"] (defScope s_is_count) := ⟨rfl, rfl, rfl, by decide +kernel, rfl, by decide +kernel, by decide +kernel⟩
abbrev s_is_name : Stmt := top 22
abbrev N_is_name : List Str := ["thing", "sign"]
theorem sc_is_name : FnScope N_is_name ["thing"] (defScope s_is_name) := ⟨rfl, rfl, rfl, by decide +kernel, rfl, by decide +kernel, by decide +kernel⟩
abbrev s_is_share : Stmt := top 24
abbrev N_is_share : List Str := ["track"]
theorem sc_is_share : FnScope N_is_share ["track"] (defScope s_is_share) := ⟨rfl, rfl, rfl, by decide +kernel, rfl, by decide +kernel, by decide +kernel⟩
abbrev s_is_track : Stmt := top 25
abbrev N_is_track : List Str := ["thing"]
theorem sc_is_track : FnScope N_is_track ["thing"] (defScope s_is_track) := ⟨rfl, rfl, rfl, by decide +kernel, rfl, by decide +kernel, by decide +kernel⟩
abbrev s_are_tracks : Stmt := top 26
abbrev N_are_tracks : List Str := ["thing", "track"]
theorem sc_are_tracks : FnScope N_are_tracks ["thing"] (defScope s_are_tracks) := ⟨rfl, rfl, rfl, by decide +kernel, rfl, by decide +kernel, by decide +kernel⟩
abbrev s_is_stretch : Stmt := top 27
abbrev N_is_stretch : List Str := ["first", "many", "count"]
theorem sc_is_stretch : FnScope N_is_stretch ["first", "many", "count"] (defScope s_is_stretch) := ⟨rfl, rfl, rfl, by decide +kernel, rfl, by decide +kernel, by decide +kernel⟩
abbrev s_is_spot : Stmt := top 28
abbrev N_is_spot : List Str := ["thing", "columns", "rows"]
theorem sc_is_spot : FnScope N_is_spot ["thing", "columns", "rows"] (defScope s_is_spot) := ⟨rfl, rfl, rfl, by decide +kernel, rfl, by decide +kernel, by decide +kernel⟩
abbrev s_apart : Stmt := top 29
abbrev N_apart : List Str := ["one", "other", "aside"]
theorem sc_apart : FnScope N_apart ["one", "other"] (defScope s_apart) := ⟨rfl, rfl, rfl, by decide +kernel, rfl, by decide +kernel, by decide +kernel⟩
abbrev s_may_stand : Stmt := top 30
abbrev N_may_stand : List Str := ["spot", "spots", "columns", "rows", "one"]
theorem sc_may_stand : FnScope N_may_stand ["spot", "spots", "columns", "rows"] (defScope s_may_stand) := ⟨rfl, rfl, rfl, by decide +kernel, rfl, by decide +kernel, by decide +kernel⟩
abbrev s_are_spots : Stmt := top 31
abbrev N_are_spots : List Str := ["thing", "many", "columns", "rows", "at", "spot"]
theorem sc_are_spots : FnScope N_are_spots ["thing", "many", "columns", "rows"] (defScope s_are_spots) := ⟨rfl, rfl, rfl, by decide +kernel, rfl, by decide +kernel, by decide +kernel⟩
abbrev s_is_part : Stmt := top 36
abbrev N_is_part : List Str := ["size"]
theorem sc_is_part : FnScope N_is_part ["size"] (defScope s_is_part) := ⟨rfl, rfl, rfl, by decide +kernel, rfl, by decide +kernel, by decide +kernel⟩
abbrev s_is_tie : Stmt := top 37
abbrev N_is_tie : List Str := ["size"]
theorem sc_is_tie : FnScope N_is_tie ["size"] (defScope s_is_tie) := ⟨rfl, rfl, rfl, by decide +kernel, rfl, by decide +kernel, by decide +kernel⟩
abbrev s_is_size : Stmt := top 38
abbrev N_is_size : List Str := ["thing"]
theorem sc_is_size : FnScope N_is_size ["thing"] (defScope s_is_size) := ⟨rfl, rfl, rfl, by decide +kernel, rfl, by decide +kernel, by decide +kernel⟩
abbrev s_is_bound : Stmt := top 39
abbrev N_is_bound : List Str := ["thing"]
theorem sc_is_bound : FnScope N_is_bound ["thing"] (defScope s_is_bound) := ⟨rfl, rfl, rfl, by decide +kernel, rfl, by decide +kernel, by decide +kernel⟩
abbrev s_is_rims : Stmt := top 40
abbrev N_is_rims : List Str := ["thing", "rim"]
theorem sc_is_rims : FnScope N_is_rims ["thing"] (defScope s_is_rims) := ⟨rfl, rfl, rfl, by decide +kernel, rfl, by decide +kernel, by decide +kernel⟩
abbrev s_Style_init : Stmt := inClass (top 41) 0
abbrev N_Style_init : List Str := ["self", "wide", "high", "least_wide", "least_high", "most_wide", "most_high", "grow", "shrink", "rims", "stand", "sizes", "bounds", "one"]
theorem sc_Style_init : FnScope N_Style_init ["self", "wide", "high", "least_wide", "least_high", "most_wide", "most_high", "grow", "shrink", "rims", "stand"] (defScope s_Style_init) := ⟨rfl, rfl, rfl, by decide +kernel, rfl, by decide +kernel, by decide +kernel⟩
abbrev s_checked_name : Stmt := top 46
abbrev N_checked_name : List Str := ["name"]
theorem sc_checked_name : FnScope N_checked_name ["name"] (defScope s_checked_name) := ⟨rfl, rfl, rfl, by decide +kernel, rfl, by decide +kernel, by decide +kernel⟩
abbrev s_checked_style : Stmt := top 47
abbrev N_checked_style : List Str := ["style"]
theorem sc_checked_style : FnScope N_checked_style ["style"] (defScope s_checked_style) := ⟨rfl, rfl, rfl, by decide +kernel, rfl, by decide +kernel, by decide +kernel⟩
abbrev s_checked_boxes : Stmt := top 48
abbrev N_checked_boxes : List Str := ["boxes", "box"]
theorem sc_checked_boxes : FnScope N_checked_boxes ["boxes"] (defScope s_checked_boxes) := ⟨rfl, rfl, rfl, by decide +kernel, rfl, by decide +kernel, by decide +kernel⟩
abbrev s_checked_gap : Stmt := top 49
abbrev N_checked_gap : List Str := ["gap"]
theorem sc_checked_gap : FnScope N_checked_gap ["gap"] (defScope s_checked_gap) := ⟨rfl, rfl, rfl, by decide +kernel, rfl, by decide +kernel, by decide +kernel⟩
abbrev s_checked_pack : Stmt := top 50
abbrev N_checked_pack : List Str := ["pack"]
theorem sc_checked_pack : FnScope N_checked_pack ["pack"] (defScope s_checked_pack) := ⟨rfl, rfl, rfl, by decide +kernel, rfl, by decide +kernel, by decide +kernel⟩
abbrev s_checked_stands : Stmt := top 51
abbrev N_checked_stands : List Str := ["stands"]
theorem sc_checked_stands : FnScope N_checked_stands ["stands"] (defScope s_checked_stands) := ⟨rfl, rfl, rfl, by decide +kernel, rfl, by decide +kernel, by decide +kernel⟩
abbrev s_Box_held_boxes : Stmt := inClass (top 52) 0
abbrev N_Box_held_boxes : List Str := ["self"]
theorem sc_Box_held_boxes : FnScope N_Box_held_boxes ["self"] (defScope s_Box_held_boxes) := ⟨rfl, rfl, rfl, by decide +kernel, rfl, by decide +kernel, by decide +kernel⟩
abbrev s_Words_init : Stmt := inClass (top 53) 0
abbrev N_Words_init : List Str := ["self", "name", "text", "style"]
theorem sc_Words_init : FnScope N_Words_init ["self", "name", "text", "style"] (defScope s_Words_init) := ⟨rfl, rfl, rfl, by decide +kernel, rfl, by decide +kernel, by decide +kernel⟩
abbrev s_Picture_init : Stmt := inClass (top 54) 0
abbrev N_Picture_init : List Str := ["self", "name", "across", "down", "style", "size"]
theorem sc_Picture_init : FnScope N_Picture_init ["self", "name", "across", "down", "style"] (defScope s_Picture_init) := ⟨rfl, rfl, rfl, by decide +kernel, rfl, by decide +kernel, by decide +kernel⟩
abbrev s_Row_init : Stmt := inClass (top 55) 0
abbrev N_Row_init : List Str := ["self", "name", "boxes", "turn", "gap", "lane", "pack", "stands", "style"]
theorem sc_Row_init : FnScope N_Row_init ["self", "name", "boxes", "turn", "gap", "lane", "pack", "stands", "style"] (defScope s_Row_init) := ⟨rfl, rfl, rfl, by decide +kernel, rfl, by decide +kernel, by decide +kernel⟩
abbrev s_Row_held_boxes : Stmt := inClass (top 55) 1
abbrev N_Row_held_boxes : List Str := ["self"]
theorem sc_Row_held_boxes : FnScope N_Row_held_boxes ["self"] (defScope s_Row_held_boxes) := ⟨rfl, rfl, rfl, by decide +kernel, rfl, by decide +kernel, by decide +kernel⟩
abbrev s_Pile_init : Stmt := inClass (top 56) 0
abbrev N_Pile_init : List Str := ["self", "name", "boxes", "gap", "pack", "stands", "style"]
theorem sc_Pile_init : FnScope N_Pile_init ["self", "name", "boxes", "gap", "pack", "stands", "style"] (defScope s_Pile_init) := ⟨rfl, rfl, rfl, by decide +kernel, rfl, by decide +kernel, by decide +kernel⟩
abbrev s_Pile_held_boxes : Stmt := inClass (top 56) 1
abbrev N_Pile_held_boxes : List Str := ["self"]
theorem sc_Pile_held_boxes : FnScope N_Pile_held_boxes ["self"] (defScope s_Pile_held_boxes) := ⟨rfl, rfl, rfl, by decide +kernel, rfl, by decide +kernel, by decide +kernel⟩
abbrev s_Grid_init : Stmt := inClass (top 57) 0
abbrev N_Grid_init : List Str := ["self", "name", "boxes", "spots", "columns", "rows", "gap", "lane", "stands", "style"]
theorem sc_Grid_init : FnScope N_Grid_init ["self", "name", "boxes", "spots", "columns", "rows", "gap", "lane", "stands", "style"] (defScope s_Grid_init) := ⟨rfl, rfl, rfl, by decide +kernel, rfl, by decide +kernel, by decide +kernel⟩
abbrev s_Grid_held_boxes : Stmt := inClass (top 57) 1
abbrev N_Grid_held_boxes : List Str := ["self"]
theorem sc_Grid_held_boxes : FnScope N_Grid_held_boxes ["self"] (defScope s_Grid_held_boxes) := ⟨rfl, rfl, rfl, by decide +kernel, rfl, by decide +kernel, by decide +kernel⟩
abbrev s_stand_of : Stmt := top 59
abbrev N_stand_of : List Str := ["box", "holder"]
theorem sc_stand_of : FnScope N_stand_of ["box", "holder"] (defScope s_stand_of) := ⟨rfl, rfl, rfl, by decide +kernel, rfl, by decide +kernel, by decide +kernel⟩
abbrev s_tied : Stmt := top 61
abbrev N_tied : List Str := ["size", "word", "name", "side", "more"]
theorem sc_tied : FnScope N_tied ["size"] (defScope s_tied) := ⟨rfl, rfl, rfl, by decide +kernel, rfl, by decide +kernel, by decide +kernel⟩
abbrev s_all_of : Stmt := top 62
abbrev N_all_of : List Str := ["boxes", "word", "one"]
theorem sc_all_of : FnScope N_all_of ["boxes", "word"] (defScope s_all_of) := ⟨rfl, rfl, rfl, by decide +kernel, rfl, by decide +kernel, by decide +kernel⟩
abbrev s_holder_box : Stmt := top 63
abbrev N_holder_box : List Str := ["nest", "name", "holder"]
theorem sc_holder_box : FnScope N_holder_box ["nest", "name"] (defScope s_holder_box) := ⟨rfl, rfl, rfl, by decide +kernel, rfl, by decide +kernel, by decide +kernel⟩
abbrev s_wish_needs : Stmt := top 64
abbrev N_wish_needs : List Str := ["nest", "frame", "name", "box", "found"]
theorem sc_wish_needs : FnScope N_wish_needs ["nest", "frame", "name"] (defScope s_wish_needs) := ⟨rfl, rfl, rfl, by decide +kernel, rfl, by decide +kernel, by decide +kernel⟩
abbrev s_least_needs : Stmt := top 65
abbrev N_least_needs : List Str := ["nest", "frame", "name", "box", "found"]
theorem sc_least_needs : FnScope N_least_needs ["nest", "frame", "name"] (defScope s_least_needs) := ⟨rfl, rfl, rfl, by decide +kernel, rfl, by decide +kernel, by decide +kernel⟩
abbrev s_wide_needs : Stmt := top 66
abbrev N_wide_needs : List Str := ["nest", "frame", "name", "box", "holder", "above"]
theorem sc_wide_needs : FnScope N_wide_needs ["nest", "frame", "name"] (defScope s_wide_needs) := ⟨rfl, rfl, rfl, by decide +kernel, rfl, by decide +kernel, by decide +kernel⟩
abbrev s_left_needs : Stmt := top 67
abbrev N_left_needs : List Str := ["nest", "frame", "name", "holder", "above"]
theorem sc_left_needs : FnScope N_left_needs ["nest", "frame", "name"] (defScope s_left_needs) := ⟨rfl, rfl, rfl, by decide +kernel, rfl, by decide +kernel, by decide +kernel⟩
abbrev s_based : Stmt := top 69
abbrev N_based : List Str := ["row", "one"]
theorem sc_based : FnScope N_based ["row"] (defScope s_based) := ⟨rfl, rfl, rfl, by decide +kernel, rfl, by decide +kernel, by decide +kernel⟩
abbrev s_line_needs : Stmt := top 70
abbrev N_line_needs : List Str := ["row", "found"]
theorem sc_line_needs : FnScope N_line_needs ["row"] (defScope s_line_needs) := ⟨rfl, rfl, rfl, by decide +kernel, rfl, by decide +kernel, by decide +kernel⟩
abbrev s_flow_needs : Stmt := top 71
abbrev N_flow_needs : List Str := ["nest", "frame", "name", "box"]
theorem sc_flow_needs : FnScope N_flow_needs ["nest", "frame", "name"] (defScope s_flow_needs) := ⟨rfl, rfl, rfl, by decide +kernel, rfl, by decide +kernel, by decide +kernel⟩
abbrev s_rise_needs : Stmt := top 72
abbrev N_rise_needs : List Str := ["nest", "frame", "name", "size"]
theorem sc_rise_needs : FnScope N_rise_needs ["nest", "frame", "name"] (defScope s_rise_needs) := ⟨rfl, rfl, rfl, by decide +kernel, rfl, by decide +kernel, by decide +kernel⟩
abbrev s_stretches : Stmt := top 73
abbrev N_stretches : List Str := ["box", "holder"]
theorem sc_stretches : FnScope N_stretches ["box", "holder"] (defScope s_stretches) := ⟨rfl, rfl, rfl, by decide +kernel, rfl, by decide +kernel, by decide +kernel⟩
abbrev s_tall_needs : Stmt := top 74
abbrev N_tall_needs : List Str := ["nest", "frame", "name", "box", "holder", "above"]
theorem sc_tall_needs : FnScope N_tall_needs ["nest", "frame", "name"] (defScope s_tall_needs) := ⟨rfl, rfl, rfl, by decide +kernel, rfl, by decide +kernel, by decide +kernel⟩
abbrev s_base_needs : Stmt := top 75
abbrev N_base_needs : List Str := ["nest", "frame", "name", "box", "inner"]
theorem sc_base_needs : FnScope N_base_needs ["nest", "frame", "name"] (defScope s_base_needs) := ⟨rfl, rfl, rfl, by decide +kernel, rfl, by decide +kernel, by decide +kernel⟩
abbrev s_top_needs : Stmt := top 76
abbrev N_top_needs : List Str := ["nest", "frame", "name", "holder", "found"]
theorem sc_top_needs : FnScope N_top_needs ["nest", "frame", "name"] (defScope s_top_needs) := ⟨rfl, rfl, rfl, by decide +kernel, rfl, by decide +kernel, by decide +kernel⟩
abbrev s_add_boxes : Stmt := top 79
abbrev N_add_boxes : List Str := ["box", "holder", "found", "one"]
theorem sc_add_boxes : FnScope N_add_boxes ["box", "holder", "found"] (defScope s_add_boxes) := ⟨rfl, rfl, rfl, by decide +kernel, rfl, by decide +kernel, by decide +kernel⟩
abbrev s_told_sizes : Stmt := top 80
abbrev N_told_sizes : List Str := ["box"]
theorem sc_told_sizes : FnScope N_told_sizes ["box"] (defScope s_told_sizes) := ⟨rfl, rfl, rfl, by decide +kernel, rfl, by decide +kernel, by decide +kernel⟩
abbrev s_Nest_init : Stmt := inClass (top 81) 0
abbrev N_Nest_init : List Str := ["self", "tree", "found", "box", "holder", "size"]
theorem sc_Nest_init : FnScope N_Nest_init ["self", "tree"] (defScope s_Nest_init) := ⟨rfl, rfl, rfl, by decide +kernel, rfl, by decide +kernel, by decide +kernel⟩
abbrev s_Nest_named : Stmt := inClass (top 81) 1
abbrev N_Nest_named : List Str := ["self", "name"]
theorem sc_Nest_named : FnScope N_Nest_named ["self", "name"] (defScope s_Nest_named) := ⟨rfl, rfl, rfl, by decide +kernel, rfl, by decide +kernel, by decide +kernel⟩
abbrev s_framed : Stmt := top 82
abbrev N_framed : List Str := ["wide", "high"]
theorem sc_framed : FnScope N_framed ["wide", "high"] (defScope s_framed) := ⟨rfl, rfl, rfl, by decide +kernel, rfl, by decide +kernel, by decide +kernel⟩
abbrev s_looked_word : Stmt := top 87
abbrev N_looked_word : List Str := ["word"]
theorem sc_looked_word : FnScope N_looked_word ["word"] (defScope s_looked_word) := ⟨rfl, rfl, rfl, by decide +kernel, rfl, by decide +kernel, by decide +kernel⟩
abbrev s_needs_in : Stmt := top 88
abbrev N_needs_in : List Str := ["nest", "frame", "name", "word", "found"]
theorem sc_needs_in : FnScope N_needs_in ["nest", "frame", "name", "word"] (defScope s_needs_in) := ⟨rfl, rfl, rfl, by decide +kernel, rfl, by decide +kernel, by decide +kernel⟩
abbrev s_needs : Stmt := top 89
abbrev N_needs : List Str := ["tree", "name", "word", "wide", "high", "nest"]
theorem sc_needs : FnScope N_needs ["tree", "name", "word", "wide", "high"] (defScope s_needs) := ⟨rfl, rfl, rfl, by decide +kernel, rfl, by decide +kernel, by decide +kernel⟩
abbrev s_asked : Stmt := top 91
abbrev N_asked : List Str := ["tree", "wide", "high", "nest", "frame", "name", "word", "waiting", "known", "need", "item"]
theorem sc_asked : FnScope N_asked ["tree", "wide", "high"] (defScope s_asked) := ⟨rfl, rfl, rfl, by decide +kernel, rfl, by decide +kernel, by decide +kernel⟩
abbrev s_w_cell_at : Stmt := top 93
abbrev N_w_cell_at : List Str := ["_law_script", "_law_k"]
theorem sc_w_cell_at : FnScope N_w_cell_at ["_law_script", "_law_k"] (defScope s_w_cell_at) := ⟨rfl, rfl, rfl, by decide +kernel, rfl, by decide +kernel, by decide +kernel⟩
abbrev s_w_mixed : Stmt := top 94
abbrev N_w_mixed : List Str := ["_law_cell", "_law_k", "_law_low"]
theorem sc_w_mixed : FnScope N_w_mixed ["_law_cell", "_law_k"] (defScope s_w_mixed) := ⟨rfl, rfl, rfl, by decide +kernel, rfl, by decide +kernel, by decide +kernel⟩
abbrev s_w_next : Stmt := top 95
abbrev N_w_next : List Str := ["_law_source_here", "_law_many", "_law_found"]
theorem sc_w_next : FnScope N_w_next ["_law_source_here", "_law_many"] (defScope s_w_next) := ⟨rfl, rfl, rfl, by decide +kernel, rfl, by decide +kernel, by decide +kernel⟩
abbrev s_w_names : Stmt := top 96
abbrev N_w_names : List Str := ["_law_source_here", "_law_many", "_law_letters", "_law_k", "_law_stem", "_law_at", "_law_shift", "_law_found", "_law_sign", "_law_name"]
theorem sc_w_names : FnScope N_w_names ["_law_source_here", "_law_many"] (defScope s_w_names) := ⟨rfl, rfl, rfl, by decide +kernel, rfl, by decide +kernel, by decide +kernel⟩
abbrev s_w_source : Stmt := top 97
abbrev N_w_source : List Str := ["_law_script", "_law_k", "_law_cell"]
theorem sc_w_source : FnScope N_w_source ["_law_script", "_law_k"] (defScope s_w_source) := ⟨rfl, rfl, rfl, by decide +kernel, rfl, by decide +kernel, by decide +kernel⟩
abbrev s_w_told : Stmt := top 98
abbrev N_w_told : List Str := ["_law_source_here", "_law_names_here", "_law_first", "_law_loose", "_law_way", "_law_target"]
theorem sc_w_told : FnScope N_w_told ["_law_source_here", "_law_names_here", "_law_first", "_law_loose"] (defScope s_w_told) := ⟨rfl, rfl, rfl, by decide +kernel, rfl, by decide +kernel, by decide +kernel⟩
abbrev s_w_looks : Stmt := top 99
abbrev N_w_looks : List Str := ["_law_source_here", "_law_names_here", "_law_first", "_law_loose", "_law_found", "_law_k"]
theorem sc_w_looks : FnScope N_w_looks ["_law_source_here", "_law_names_here", "_law_first", "_law_loose"] (defScope s_w_looks) := ⟨rfl, rfl, rfl, by decide +kernel, rfl, by decide +kernel, by decide +kernel⟩
abbrev s_w_style : Stmt := top 100
abbrev N_w_style : List Str := ["_law_one"]
theorem sc_w_style : FnScope N_w_style ["_law_one"] (defScope s_w_style) := ⟨rfl, rfl, rfl, by decide +kernel, rfl, by decide +kernel, by decide +kernel⟩
abbrev s_w_box : Stmt := top 101
abbrev N_w_box : List Str := ["_law_source_here", "_law_name", "_law_inner", "_law_looks_here", "_law_kind", "_law_own", "_law_turns", "_law_space", "_law_way", "_law_told_here", "_law_text", "_law_many", "_law_spots", "_law_across", "_law_downs", "_law_box_here", "_law_k"]
theorem sc_w_box : FnScope N_w_box ["_law_source_here", "_law_name", "_law_inner", "_law_looks_here"] (defScope s_w_box) := ⟨rfl, rfl, rfl, by decide +kernel, rfl, by decide +kernel, by decide +kernel⟩
abbrev s_w_tree : Stmt := top 102
abbrev N_w_tree : List Str := ["_law_script", "_law_most", "_law_loose", "_law_source_here", "_law_names_here", "_law_facts", "_law_standing", "_law_k", "_law_name", "_law_first", "_law_many", "_law_inner", "_law_looks_here", "_law_kind", "_law_own", "_law_turns", "_law_box_here", "_law_one"]
theorem sc_w_tree : FnScope N_w_tree ["_law_script", "_law_most", "_law_loose"] (defScope s_w_tree) := ⟨rfl, rfl, rfl, by decide +kernel, rfl, by decide +kernel, by decide +kernel⟩
abbrev s_w_order : Stmt := top 103
abbrev N_w_order : List Str := ["_law_facts", "_law_name", "_law_found", "_law_one"]
theorem sc_w_order : FnScope N_w_order ["_law_facts", "_law_name"] (defScope s_w_order) := ⟨rfl, rfl, rfl, by decide +kernel, rfl, by decide +kernel, by decide +kernel⟩
abbrev s_law : Stmt := top 104
abbrev N_law : List Str := ["_law_script", "_law_tree_here", "_law_names_here", "_law_facts", "_law_tall", "_law_words", "_law_found", "_law_waiting", "_law_word", "_law_name", "_law_seen", "_law_due", "_law_one"]
theorem sc_law : FnScope N_law ["_law_script"] (defScope s_law) := ⟨rfl, rfl, rfl, by decide +kernel, rfl, by decide +kernel, by decide +kernel⟩
structure Tx (w : World) (K : PySem.W.Frag) (mg : Str → Option Value) where
  U_NO_RIMS : Addr
  U_SIDES : Addr
  U_STANDS : Addr
  U_PACKS : Addr
  U_WORDS : Addr
  U_PLACED : Addr
  U_NEEDS : Addr
  U_LETTERS : Value
  U_LONGEST : Value
  c_Style : Cl K mg "Style"
  n_Style_wide : PySem.W.findIn K (.ref c_Style.C) "wide" = some none
  n_Style_high : PySem.W.findIn K (.ref c_Style.C) "high" = some none
  n_Style_least_wide : PySem.W.findIn K (.ref c_Style.C) "least_wide" = some none
  n_Style_least_high : PySem.W.findIn K (.ref c_Style.C) "least_high" = some none
  n_Style_most_wide : PySem.W.findIn K (.ref c_Style.C) "most_wide" = some none
  n_Style_most_high : PySem.W.findIn K (.ref c_Style.C) "most_high" = some none
  n_Style_grow : PySem.W.findIn K (.ref c_Style.C) "grow" = some none
  n_Style_shrink : PySem.W.findIn K (.ref c_Style.C) "shrink" = some none
  n_Style_rims : PySem.W.findIn K (.ref c_Style.C) "rims" = some none
  n_Style_stand : PySem.W.findIn K (.ref c_Style.C) "stand" = some none
  c_Box : Cl K mg "Box"
  c_Words : Cl K mg "Words"
  n_Words_name : PySem.W.findIn K (.ref c_Words.C) "name" = some none
  n_Words_text : PySem.W.findIn K (.ref c_Words.C) "text" = some none
  n_Words_style : PySem.W.findIn K (.ref c_Words.C) "style" = some none
  c_Picture : Cl K mg "Picture"
  n_Picture_name : PySem.W.findIn K (.ref c_Picture.C) "name" = some none
  n_Picture_across : PySem.W.findIn K (.ref c_Picture.C) "across" = some none
  n_Picture_down : PySem.W.findIn K (.ref c_Picture.C) "down" = some none
  n_Picture_style : PySem.W.findIn K (.ref c_Picture.C) "style" = some none
  c_Row : Cl K mg "Row"
  n_Row_name : PySem.W.findIn K (.ref c_Row.C) "name" = some none
  n_Row_boxes : PySem.W.findIn K (.ref c_Row.C) "boxes" = some none
  n_Row_turn : PySem.W.findIn K (.ref c_Row.C) "turn" = some none
  n_Row_gap : PySem.W.findIn K (.ref c_Row.C) "gap" = some none
  n_Row_lane : PySem.W.findIn K (.ref c_Row.C) "lane" = some none
  n_Row_pack : PySem.W.findIn K (.ref c_Row.C) "pack" = some none
  n_Row_stands : PySem.W.findIn K (.ref c_Row.C) "stands" = some none
  n_Row_style : PySem.W.findIn K (.ref c_Row.C) "style" = some none
  c_Pile : Cl K mg "Pile"
  n_Pile_name : PySem.W.findIn K (.ref c_Pile.C) "name" = some none
  n_Pile_boxes : PySem.W.findIn K (.ref c_Pile.C) "boxes" = some none
  n_Pile_gap : PySem.W.findIn K (.ref c_Pile.C) "gap" = some none
  n_Pile_pack : PySem.W.findIn K (.ref c_Pile.C) "pack" = some none
  n_Pile_stands : PySem.W.findIn K (.ref c_Pile.C) "stands" = some none
  n_Pile_style : PySem.W.findIn K (.ref c_Pile.C) "style" = some none
  c_Grid : Cl K mg "Grid"
  n_Grid_name : PySem.W.findIn K (.ref c_Grid.C) "name" = some none
  n_Grid_boxes : PySem.W.findIn K (.ref c_Grid.C) "boxes" = some none
  n_Grid_columns : PySem.W.findIn K (.ref c_Grid.C) "columns" = some none
  n_Grid_rows : PySem.W.findIn K (.ref c_Grid.C) "rows" = some none
  n_Grid_spots : PySem.W.findIn K (.ref c_Grid.C) "spots" = some none
  n_Grid_gap : PySem.W.findIn K (.ref c_Grid.C) "gap" = some none
  n_Grid_lane : PySem.W.findIn K (.ref c_Grid.C) "lane" = some none
  n_Grid_stands : PySem.W.findIn K (.ref c_Grid.C) "stands" = some none
  n_Grid_style : PySem.W.findIn K (.ref c_Grid.C) "style" = some none
  c_Nest : Cl K mg "Nest"
  n_Nest_order : PySem.W.findIn K (.ref c_Nest.C) "order" = some none
  n_Nest_box_by : PySem.W.findIn K (.ref c_Nest.C) "box_by" = some none
  n_Nest_holder_by : PySem.W.findIn K (.ref c_Nest.C) "holder_by" = some none
  d_is_whole : Df K mg "is_whole" s_is_whole ["thing"]
  d_is_count : Df K mg "is_count" s_is_count ["thing"]
  d_is_name : Df K mg "is_name" s_is_name ["thing"]
  d_is_share : Df K mg "is_share" s_is_share ["track"]
  d_is_track : Df K mg "is_track" s_is_track ["thing"]
  d_are_tracks : Df K mg "are_tracks" s_are_tracks ["thing"]
  d_is_stretch : Df K mg "is_stretch" s_is_stretch ["first", "many", "count"]
  d_is_spot : Df K mg "is_spot" s_is_spot ["thing", "columns", "rows"]
  d_apart : Df K mg "apart" s_apart ["one", "other"]
  d_may_stand : Df K mg "may_stand" s_may_stand ["spot", "spots", "columns", "rows"]
  d_are_spots : Df K mg "are_spots" s_are_spots ["thing", "many", "columns", "rows"]
  d_is_part : Df K mg "is_part" s_is_part ["size"]
  d_is_tie : Df K mg "is_tie" s_is_tie ["size"]
  d_is_size : Df K mg "is_size" s_is_size ["thing"]
  d_is_bound : Df K mg "is_bound" s_is_bound ["thing"]
  d_is_rims : Df K mg "is_rims" s_is_rims ["thing"]
  d_Style_init : Ini K "Style.__init__" s_Style_init c_Style.C [("wide", .non), ("high", .non), ("least_wide", .non), ("least_high", .non), ("most_wide", .non), ("most_high", .non), ("grow", .int 0), ("shrink", .int 1), ("rims", .ref U_NO_RIMS), ("stand", .non)]
  d_checked_name : Df K mg "checked_name" s_checked_name ["name"]
  d_checked_style : Df K mg "checked_style" s_checked_style ["style"]
  d_checked_boxes : Df K mg "checked_boxes" s_checked_boxes ["boxes"]
  d_checked_gap : Df K mg "checked_gap" s_checked_gap ["gap"]
  d_checked_pack : Df K mg "checked_pack" s_checked_pack ["pack"]
  d_checked_stands : Df K mg "checked_stands" s_checked_stands ["stands"]
  d_Box_held_boxes : Mt K "held_boxes" "Box.held_boxes" s_Box_held_boxes c_Box.C ["self"]
  d_Words_init : Ini K "Words.__init__" s_Words_init c_Words.C [("style", .non)]
  d_Picture_init : Ini K "Picture.__init__" s_Picture_init c_Picture.C [("style", .non)]
  d_Row_init : Ini K "Row.__init__" s_Row_init c_Row.C [("turn", .bl false), ("gap", .int 0), ("lane", .int 0), ("pack", .str (Str.ofString "start")), ("stands", .str (Str.ofString "stretch")), ("style", .non)]
  d_Row_held_boxes : Mt K "held_boxes" "Row.held_boxes" s_Row_held_boxes c_Row.C ["self"]
  d_Pile_init : Ini K "Pile.__init__" s_Pile_init c_Pile.C [("gap", .int 0), ("pack", .str (Str.ofString "start")), ("stands", .str (Str.ofString "stretch")), ("style", .non)]
  d_Pile_held_boxes : Mt K "held_boxes" "Pile.held_boxes" s_Pile_held_boxes c_Pile.C ["self"]
  d_Grid_init : Ini K "Grid.__init__" s_Grid_init c_Grid.C [("gap", .int 0), ("lane", .int 0), ("stands", .str (Str.ofString "stretch")), ("style", .non)]
  d_Grid_held_boxes : Mt K "held_boxes" "Grid.held_boxes" s_Grid_held_boxes c_Grid.C ["self"]
  d_stand_of : Df K mg "stand_of" s_stand_of ["box", "holder"]
  d_tied : Df K mg "tied" s_tied ["size"]
  d_all_of : Df K mg "all_of" s_all_of ["boxes", "word"]
  d_holder_box : Df K mg "holder_box" s_holder_box ["nest", "name"]
  d_wish_needs : Df K mg "wish_needs" s_wish_needs ["nest", "frame", "name"]
  d_least_needs : Df K mg "least_needs" s_least_needs ["nest", "frame", "name"]
  d_wide_needs : Df K mg "wide_needs" s_wide_needs ["nest", "frame", "name"]
  d_left_needs : Df K mg "left_needs" s_left_needs ["nest", "frame", "name"]
  d_based : Df K mg "based" s_based ["row"]
  d_line_needs : Df K mg "line_needs" s_line_needs ["row"]
  d_flow_needs : Df K mg "flow_needs" s_flow_needs ["nest", "frame", "name"]
  d_rise_needs : Df K mg "rise_needs" s_rise_needs ["nest", "frame", "name"]
  d_stretches : Df K mg "stretches" s_stretches ["box", "holder"]
  d_tall_needs : Df K mg "tall_needs" s_tall_needs ["nest", "frame", "name"]
  d_base_needs : Df K mg "base_needs" s_base_needs ["nest", "frame", "name"]
  d_top_needs : Df K mg "top_needs" s_top_needs ["nest", "frame", "name"]
  d_add_boxes : Df K mg "add_boxes" s_add_boxes ["box", "holder", "found"]
  d_told_sizes : Df K mg "told_sizes" s_told_sizes ["box"]
  d_Nest_init : Ini0 K "Nest.__init__" s_Nest_init c_Nest.C ["self", "tree"]
  d_Nest_named : Mt K "named" "Nest.named" s_Nest_named c_Nest.C ["self", "name"]
  d_framed : Df K mg "framed" s_framed ["wide", "high"]
  d_looked_word : Df K mg "looked_word" s_looked_word ["word"]
  d_needs_in : Df K mg "needs_in" s_needs_in ["nest", "frame", "name", "word"]
  d_needs : DfK K mg "needs" s_needs ["tree", "name", "word", "wide", "high"] [("wide", .int 80), ("high", .non)]
  d_asked : DfK K mg "asked" s_asked ["tree", "wide", "high"] [("wide", .int 80), ("high", .non)]
  d_w_cell_at : Df K mg "_law_cell_at" s_w_cell_at ["_law_script", "_law_k"]
  d_w_mixed : Df K mg "_law_mixed" s_w_mixed ["_law_cell", "_law_k"]
  d_w_next : Df K mg "_law_next" s_w_next ["_law_source_here", "_law_many"]
  d_w_names : Df K mg "_law_names" s_w_names ["_law_source_here", "_law_many"]
  d_w_source : Df K mg "_law_source" s_w_source ["_law_script", "_law_k"]
  d_w_told : Df K mg "_law_told" s_w_told ["_law_source_here", "_law_names_here", "_law_first", "_law_loose"]
  d_w_looks : Df K mg "_law_looks" s_w_looks ["_law_source_here", "_law_names_here", "_law_first", "_law_loose"]
  d_w_style : Df K mg "_law_style" s_w_style ["_law_one"]
  d_w_box : Df K mg "_law_box" s_w_box ["_law_source_here", "_law_name", "_law_inner", "_law_looks_here"]
  d_w_tree : Df K mg "_law_tree" s_w_tree ["_law_script", "_law_most", "_law_loose"]
  d_w_order : Df K mg "_law_order" s_w_order ["_law_facts", "_law_name"]
  d_law : Df K mg "law" s_law ["_law_script"]
  b_all : mg "all" = none
  b_any : mg "any" = none
  b_bool : mg "bool" = none
  b_enumerate : mg "enumerate" = none
  b_int : mg "int" = none
  b_isinstance : mg "isinstance" = none
  b_len : mg "len" = none
  b_list : mg "list" = none
  b_max : mg "max" = none
  b_range : mg "range" = none
  b_str : mg "str" = none
  b_tuple : mg "tuple" = none
  v_SIDES : mg "SIDES" = some (.ref U_SIDES)
  v_STANDS : mg "STANDS" = some (.ref U_STANDS)
  v_PACKS : mg "PACKS" = some (.ref U_PACKS)
  v_WORDS : mg "WORDS" = some (.ref U_WORDS)
  v_PLACED : mg "PLACED" = some (.ref U_PLACED)
  v_NEEDS : mg "NEEDS" = some (.ref U_NEEDS)
  v_LETTERS : mg "LETTERS" = some (U_LETTERS)
  v_LONGEST : mg "LONGEST" = some (U_LONGEST)
  t_NO_RIMS : ∀ H, SqT K H U_NO_RIMS [.int 0, .int 0, .int 0, .int 0]
  t_SIDES : ∀ H, SqT K H U_SIDES [.str (Str.ofString "wide"), .str (Str.ofString "tall")]
  t_STANDS : ∀ H, SqT K H U_STANDS [.str (Str.ofString "start"), .str (Str.ofString "end"), .str (Str.ofString "middle"), .str (Str.ofString "stretch"), .str (Str.ofString "base")]
  t_PACKS : ∀ H, SqT K H U_PACKS [.str (Str.ofString "start"), .str (Str.ofString "end"), .str (Str.ofString "middle"), .str (Str.ofString "between")]
  t_PLACED : ∀ H, SqT K H U_PLACED [.str (Str.ofString "wide"), .str (Str.ofString "tall"), .str (Str.ofString "left"), .str (Str.ofString "top")]
  t_WORDS : ∀ H, SqT K H U_WORDS [.str (Str.ofString "least"), .str (Str.ofString "wish"), .str (Str.ofString "wide"), .str (Str.ofString "flow"), .str (Str.ofString "rise"), .str (Str.ofString "tall"), .str (Str.ofString "base"), .str (Str.ofString "left"), .str (Str.ofString "top")]
  r_LETTERS : RelV (.str (Str.ofString "abcdefghijklmnopqrstuvwxyz")) U_LETTERS
  r_LONGEST : RelV (.int 8) U_LONGEST
  wg : PySem.W.specialIn K (.builtin "object.__class__") "__get__" = some (some (.builtin "getset_descriptor.__get__"))
  wt : PySem.W.takesIn K (.builtin "object.__class__") = some true
  wc_Words : PySem.W.findIn K (.ref c_Words.C) "__class__" = some (some (.builtin "object.__class__"))
  wm_Words : PySem.W.mroIn K c_Words.C (.type "object") = some true
  wc_Picture : PySem.W.findIn K (.ref c_Picture.C) "__class__" = some (some (.builtin "object.__class__"))
  wm_Picture : PySem.W.mroIn K c_Picture.C (.type "object") = some true
  wc_Row : PySem.W.findIn K (.ref c_Row.C) "__class__" = some (some (.builtin "object.__class__"))
  wm_Row : PySem.W.mroIn K c_Row.C (.type "object") = some true
  wc_Pile : PySem.W.findIn K (.ref c_Pile.C) "__class__" = some (some (.builtin "object.__class__"))
  wm_Pile : PySem.W.mroIn K c_Pile.C (.type "object") = some true
  wc_Grid : PySem.W.findIn K (.ref c_Grid.C) "__class__" = some (some (.builtin "object.__class__"))
  wm_Grid : PySem.W.mroIn K c_Grid.C (.type "object") = some true
  wc_Style : PySem.W.findIn K (.ref c_Style.C) "__class__" = some (some (.builtin "object.__class__"))
  wm_Style : PySem.W.mroIn K c_Style.C (.type "object") = some true
  kb_Words : PySem.W.kitOne K (.ref c_Words.C) (.ref c_Box.C) = some true
  ki_Words_Words : PySem.W.kitOne K (.ref c_Words.C) (.ref c_Words.C) = some true
  ki_Words_Picture : PySem.W.kitOne K (.ref c_Words.C) (.ref c_Picture.C) = some false
  ki_Words_Row : PySem.W.kitOne K (.ref c_Words.C) (.ref c_Row.C) = some false
  ki_Words_Pile : PySem.W.kitOne K (.ref c_Words.C) (.ref c_Pile.C) = some false
  ki_Words_Grid : PySem.W.kitOne K (.ref c_Words.C) (.ref c_Grid.C) = some false
  kb_Picture : PySem.W.kitOne K (.ref c_Picture.C) (.ref c_Box.C) = some true
  ki_Picture_Words : PySem.W.kitOne K (.ref c_Picture.C) (.ref c_Words.C) = some false
  ki_Picture_Picture : PySem.W.kitOne K (.ref c_Picture.C) (.ref c_Picture.C) = some true
  ki_Picture_Row : PySem.W.kitOne K (.ref c_Picture.C) (.ref c_Row.C) = some false
  ki_Picture_Pile : PySem.W.kitOne K (.ref c_Picture.C) (.ref c_Pile.C) = some false
  ki_Picture_Grid : PySem.W.kitOne K (.ref c_Picture.C) (.ref c_Grid.C) = some false
  kb_Row : PySem.W.kitOne K (.ref c_Row.C) (.ref c_Box.C) = some true
  ki_Row_Words : PySem.W.kitOne K (.ref c_Row.C) (.ref c_Words.C) = some false
  ki_Row_Picture : PySem.W.kitOne K (.ref c_Row.C) (.ref c_Picture.C) = some false
  ki_Row_Row : PySem.W.kitOne K (.ref c_Row.C) (.ref c_Row.C) = some true
  ki_Row_Pile : PySem.W.kitOne K (.ref c_Row.C) (.ref c_Pile.C) = some false
  ki_Row_Grid : PySem.W.kitOne K (.ref c_Row.C) (.ref c_Grid.C) = some false
  kb_Pile : PySem.W.kitOne K (.ref c_Pile.C) (.ref c_Box.C) = some true
  ki_Pile_Words : PySem.W.kitOne K (.ref c_Pile.C) (.ref c_Words.C) = some false
  ki_Pile_Picture : PySem.W.kitOne K (.ref c_Pile.C) (.ref c_Picture.C) = some false
  ki_Pile_Row : PySem.W.kitOne K (.ref c_Pile.C) (.ref c_Row.C) = some false
  ki_Pile_Pile : PySem.W.kitOne K (.ref c_Pile.C) (.ref c_Pile.C) = some true
  ki_Pile_Grid : PySem.W.kitOne K (.ref c_Pile.C) (.ref c_Grid.C) = some false
  kb_Grid : PySem.W.kitOne K (.ref c_Grid.C) (.ref c_Box.C) = some true
  ki_Grid_Words : PySem.W.kitOne K (.ref c_Grid.C) (.ref c_Words.C) = some false
  ki_Grid_Picture : PySem.W.kitOne K (.ref c_Grid.C) (.ref c_Picture.C) = some false
  ki_Grid_Row : PySem.W.kitOne K (.ref c_Grid.C) (.ref c_Row.C) = some false
  ki_Grid_Pile : PySem.W.kitOne K (.ref c_Grid.C) (.ref c_Pile.C) = some false
  ki_Grid_Grid : PySem.W.kitOne K (.ref c_Grid.C) (.ref c_Grid.C) = some true
  ki_Style : PySem.W.kitOne K (.ref c_Style.C) (.ref c_Style.C) = some true
  mh_Words : PySem.W.findIn K (.ref c_Words.C) "held_boxes" = some (some (.ref d_Box_held_boxes.f))
  mh_Picture : PySem.W.findIn K (.ref c_Picture.C) "held_boxes" = some (some (.ref d_Box_held_boxes.f))
  kn_least : KDct K w U_NEEDS "least" (.ref d_least_needs.f)
  kn_wish : KDct K w U_NEEDS "wish" (.ref d_wish_needs.f)
  kn_wide : KDct K w U_NEEDS "wide" (.ref d_wide_needs.f)
  kn_flow : KDct K w U_NEEDS "flow" (.ref d_flow_needs.f)
  kn_rise : KDct K w U_NEEDS "rise" (.ref d_rise_needs.f)
  kn_tall : KDct K w U_NEEDS "tall" (.ref d_tall_needs.f)
  kn_base : KDct K w U_NEEDS "base" (.ref d_base_needs.f)
  kn_left : KDct K w U_NEEDS "left" (.ref d_left_needs.f)
  kn_top : KDct K w U_NEEDS "top" (.ref d_top_needs.f)
section
variable {w : World} {K : PySem.W.Frag} {mg : Str → Option Value}
def bcT (T : Tx w K mg) : Kd → Addr
  | .words => T.c_Words.C
  | .picture => T.c_Picture.C
  | .row => T.c_Row.C
  | .pile => T.c_Pile.C
  | .grid => T.c_Grid.C
theorem kdT (T : Tx w K mg) : KdF K (bcT T) T.c_Box.C where
  cl := fun k => match k with | .words => T.c_Words.cls | .picture => T.c_Picture.cls | .row => T.c_Row.cls | .pile => T.c_Pile.cls | .grid => T.c_Grid.cls
  wc := fun k => match k with | .words => T.wc_Words | .picture => T.wc_Picture | .row => T.wc_Row | .pile => T.wc_Pile | .grid => T.wc_Grid
  wm := fun k => match k with | .words => T.wm_Words | .picture => T.wm_Picture | .row => T.wm_Row | .pile => T.wm_Pile | .grid => T.wm_Grid
  box := fun k => match k with | .words => T.kb_Words | .picture => T.kb_Picture | .row => T.kb_Row | .pile => T.kb_Pile | .grid => T.kb_Grid
  nm := fun k => match k with | .words => T.n_Words_name | .picture => T.n_Picture_name | .row => T.n_Row_name | .pile => T.n_Pile_name | .grid => T.n_Grid_name
  sy := fun k => match k with | .words => T.n_Words_style | .picture => T.n_Picture_style | .row => T.n_Row_style | .pile => T.n_Pile_style | .grid => T.n_Grid_style
  wg := T.wg
  wt := T.wt
  is_ := fun k j => match k, j with | .words, .words => T.ki_Words_Words | .words, .picture => T.ki_Words_Picture | .words, .row => T.ki_Words_Row | .words, .pile => T.ki_Words_Pile | .words, .grid => T.ki_Words_Grid | .picture, .words => T.ki_Picture_Words | .picture, .picture => T.ki_Picture_Picture | .picture, .row => T.ki_Picture_Row | .picture, .pile => T.ki_Picture_Pile | .picture, .grid => T.ki_Picture_Grid | .row, .words => T.ki_Row_Words | .row, .picture => T.ki_Row_Picture | .row, .row => T.ki_Row_Row | .row, .pile => T.ki_Row_Pile | .row, .grid => T.ki_Row_Grid | .pile, .words => T.ki_Pile_Words | .pile, .picture => T.ki_Pile_Picture | .pile, .row => T.ki_Pile_Row | .pile, .pile => T.ki_Pile_Pile | .pile, .grid => T.ki_Pile_Grid | .grid, .words => T.ki_Grid_Words | .grid, .picture => T.ki_Grid_Picture | .grid, .row => T.ki_Grid_Row | .grid, .pile => T.ki_Grid_Pile | .grid, .grid => T.ki_Grid_Grid
end
end My
namespace My
open PySem L2
theorem atK {xs : List V} {k : Nat} {v : V} (h : xs[k]? = some v) : atI xs (k : Int) = some v := by
  unfold atI
  rw [ixN_nat (List.getElem?_eq_some_iff.mp h).1]
  exact h
/-- a draw off the first ones of a list -/
theorem pickP {P : V → Prop} {xs : List V} (ys : List V) {n : Int} (h : ∀ x ∈ xs, P x) (h0 : 0 ≤ n) (h1 : n < xs.length) : ∃ x, atI (xs ++ ys) n = some x ∧ P x := by
  obtain ⟨k, rfl⟩ := Int.eq_ofNat_of_zero_le h0
  have hk : k < xs.length := by omega
  exact ⟨xs[k], atK (by rw [List.getElem?_append_left hk]; exact List.getElem?_eq_getElem hk), h _ (List.getElem_mem hk)⟩
theorem allC {P : V → Prop} {x : V} {xs : List V} (h : P x) (t : ∀ y ∈ xs, P y) : ∀ y ∈ x :: xs, P y := List.forall_mem_cons.mpr ⟨h, t⟩
theorem allN {P : V → Prop} : ∀ y ∈ ([] : List V), P y := fun _ h => by cases h
theorem pickA {P : V → Prop} {xs : List V} {n : Int} (h : ∀ x ∈ xs, P x) (h0 : 0 ≤ n) (h1 : n < xs.length) : ∃ x, atI xs n = some x ∧ P x := by
  have := pickP [] h h0 h1
  rwa [List.append_nil] at this
end My

/-! ### texts: signs, pieces -/
namespace My
open PySem L2
theorem at_some {α : Type} {xs : List α} {i : Int} (h0 : 0 ≤ i) (h1 : i < xs.length) : ∃ c, atI xs i = some c ∧ c ∈ xs := by
  obtain ⟨k, rfl⟩ := Int.eq_ofNat_of_zero_le h0
  have hk : k < xs.length := by omega
  refine ⟨xs[k], ?_, List.getElem_mem hk⟩
  unfold atI
  rw [ixN_nat hk]
  exact List.getElem?_eq_getElem hk
theorem strOk_iff {x : Str} : PyData.strOk x = true ↔ ∀ c ∈ x.cps.toList, c < 0x110000 := by
  unfold PyData.strOk
  rw [← Array.all_toList, List.all_eq_true]
  exact ⟨fun h c hc => of_decide_eq_true (h c hc), fun h c hc => decide_eq_true (h c hc)⟩
theorem strOk_one {c : Nat} (h : c < 0x110000) : PyData.strOk ⟨#[c]⟩ = true := strOk_iff.mpr fun d hd => by
  rw [List.mem_singleton.mp hd]; exact h
theorem strOk_append {x y : Str} (hx : PyData.strOk x = true) (hy : PyData.strOk y = true) : PyData.strOk (x ++ y) = true := strOk_iff.mpr fun c hc => by
  have : c ∈ (x.cps ++ y.cps).toList := hc
  rw [Array.toList_append] at this
  rcases List.mem_append.mp this with h | h
  · exact strOk_iff.mp hx c h
  · exact strOk_iff.mp hy c h
theorem strOk_cut {x : Str} {lo hi : Option Int} (hx : PyData.strOk x = true) : PyData.strOk (cutS x lo hi) = true := strOk_iff.mpr fun c hc => by
  have : c ∈ (x.cps.toList.drop (HT.sIx x.length 0 lo)).take (HT.sIx x.length x.length hi - HT.sIx x.length 0 lo) := hc
  exact strOk_iff.mp hx c (List.mem_of_mem_drop (List.mem_of_mem_take this))
theorem str_sign {x : Str} {i : Int} (h0 : 0 ≤ i) (h1 : i < x.length) (ok : PyData.strOk x = true) : ∃ c, atI x.cps.toList i = some c ∧ PyData.strOk ⟨#[c]⟩ = true := by
  obtain ⟨c, h, m⟩ := at_some (xs := x.cps.toList) h0 (by rw [Array.length_toList]; exact h1)
  exact ⟨c, h, strOk_one (strOk_iff.mp ok c m)⟩
end My

/-! ### tracks and asks that may be none -/
namespace My
open PySem L2
def flatD : PyData → Bool
  | .none => true
  | .bool _ => true
  | .int _ => true
  | .str _ => true
  | _ => false
def flV : PyData → V
  | .none => .non
  | .bool b => .bl b
  | .int i => .int i
  | .str s => .str s
  | _ => .non
def tyD : PyData → String
  | .none => "NoneType"
  | .bool _ => "bool"
  | .int _ => "int"
  | .str _ => "str"
  | .list _ => "list"
  | .tuple _ => "tuple"
  | .dict _ => "dict"
inductive It (H : Hp) : V → PyData → Prop
  | fl (d : PyData) (f : flatD d = true) : It H (flV d) d
  | tup {r : Addr} {ds : List PyData} (g : H r = some (.tup (ds.map flV))) (f : ds.all flatD = true) : It H (.ref r) (.tuple ds)
  | lst {r : Addr} {ds : List PyData} (g : H r = some (.lst (ds.map flV))) (f : ds.all flatD = true) : It H (.ref r) (.list ds)
section
variable {H H' : Hp} {v : V} {d : PyData}
theorem fl_t7 : ∀ {d : PyData}, flatD d = true → Ty7 H (flV d) (tyD d)
  | .none, _ => .non
  | .bool b, _ => .bl b
  | .int i, _ => .int i
  | .str s, _ => .str s
  | .list _, h => by cases h
  | .tuple _, h => by cases h
  | .dict _, h => by cases h
theorem It.t7 (h : It H v d) : Ty7 H v (tyD d) := by
  cases h with
  | fl _ f => exact fl_t7 f
  | tup g _ => exact .tup g
  | lst g _ => exact .lst g
theorem It.mono (h : It H v d) (s : Same H H') : It H' v d := by
  cases h with
  | fl _ f => exact .fl _ f
  | tup g f => exact .tup (s _ _ g) f
  | lst g f => exact .lst (s _ _ g) f
theorem It.but {a : Addr} (h : It H v d) (b : But a H H') (n : v ≠ .ref a) : It H' v d := by
  cases h with
  | fl _ f => exact .fl _ f
  | tup g f => exact .tup (b.app (fun e => n (by rw [e])) g) f
  | lst g f => exact .lst (b.app (fun e => n (by rw [e])) g) f
theorem fl_dp {K : PySem.W.Frag} : ∀ {d : PyData}, flatD d = true → Dp K H (flV d) d
  | .none, _ => .non
  | .bool b, _ => .bl b
  | .int i, _ => .int i
  | .str s, _ => .str s
  | .list _, h => by cases h
  | .tuple _, h => by cases h
  | .dict _, h => by cases h
theorem fl_dps {K : PySem.W.Frag} : ∀ {ds : List PyData}, ds.all flatD = true → DpAll K H (ds.map flV) ds
  | [], _ => .nil
  | d :: ds, h => by
    rw [List.all_cons, Bool.and_eq_true] at h
    exact .cons (fl_dp h.1) (fl_dps h.2)
theorem It.dp {K : PySem.W.Frag} (h : It H v d) : Dp K H v d := by
  cases h with
  | fl _ f => exact fl_dp f
  | tup g f => exact .tup (sqT g) (fl_dps f)
  | lst g f => exact .lst (sqL g) (fl_dps f)
/-- flat, or an object -/
theorem It.kind (h : It H v d) : flatB v = true ∨ ∃ r, v = .ref r := by
  cases h with
  | fl d f => cases d <;> first | exact .inl rfl | cases f
  | tup g f => exact .inr ⟨_, rfl⟩
  | lst g f => exact .inr ⟨_, rfl⟩
end
/-! #### what is a track, an ask -/
def isP : V → Bool
  | .int k => decide (1 ≤ k)
  | _ => false
def trackB : PyData → Bool
  | .tuple [a, b] => decide (flV a = .str "share") && isP (flV b)
  | .tuple _ => false
  | .list _ => false
  | .dict _ => false
  | d => isN (flV d) || decide (flV d = .str "fit")
def strD : PyData → Bool
  | .str _ => true
  | _ => false
/-- its first item can be compared; it can be laid -/
def fineD (d : PyData) : Bool := d.canLay0 && decide (d.depth ≤ 1) && (match d with
  | .tuple [a, _] => strD a
  | _ => true)
def stretchB (n : Int) : V → V → Bool
  | .int f, .int m => decide (0 ≤ f) && decide (1 ≤ m) && decide (f + m ≤ n)
  | _, _ => false
def askB (n : Int) : PyData → Bool
  | .tuple [a, b, c] => stretchB n (flV a) (flV b) && isN (flV c)
  | _ => false
def ItsAt (H : Hp) (vs : List V) (ds : List PyData) : Prop := vs.length = ds.length ∧ ∀ (i : Nat) (v : V) (d : PyData), vs[i]? = some v → ds[i]? = some d → It H v d
section
variable {H H' : Hp} {vs : List V} {ds : List PyData} {v : V} {d : PyData}
theorem ItsAt.mono (h : ItsAt H vs ds) (s : Same H H') : ItsAt H' vs ds := ⟨h.1, fun i v d a b => (h.2 i v d a b).mono s⟩
theorem ItsAt.but {a : Addr} (h : ItsAt H vs ds) (b : But a H H') (n : ∀ v ∈ vs, v ≠ .ref a) : ItsAt H' vs ds := ⟨h.1, fun i v d x y => (h.2 i v d x y).but b (n v (List.mem_of_getElem? x))⟩
theorem ItsAt.at' (h : ItsAt H vs ds) {i : Nat} (e : vs[i]? = some v) : ∃ d, ds[i]? = some d ∧ It H v d := by
  have hi := (List.getElem?_eq_some_iff.mp e).1
  have l := h.1
  exact ⟨ds[i], List.getElem?_eq_getElem (by omega), h.2 i v _ e (List.getElem?_eq_getElem (by omega))⟩
theorem ItsAt.dp {K : PySem.W.Frag} : ∀ {vs : List V} {ds : List PyData}, ItsAt H vs ds → DpAll K H vs ds
  | [], [], _ => .nil
  | [], _ :: _, h => by cases h.1
  | _ :: _, [], h => by cases h.1
  | v :: vs, d :: ds, h => .cons (h.2 0 v d rfl rfl).dp (ItsAt.dp ⟨by simpa using h.1, fun i w e a b => h.2 (i + 1) w e a b⟩)
theorem ItsAt.kind (h : ItsAt H vs ds) : ∀ v ∈ vs, flatB v = true ∨ ∃ r, v = .ref r := fun v hv => by
  obtain ⟨i, hi⟩ := List.getElem?_of_mem hv
  obtain ⟨d, _, hd⟩ := h.at' hi
  exact hd.kind
theorem ItsAt.set (h : ItsAt H vs ds) (i : Nat) (hv : It H v d) : ItsAt H (vs.set i v) (ds.set i d) := by
  refine ⟨by rw [List.length_set, List.length_set]; exact h.1, fun j w e a b => ?_⟩
  by_cases hj : i = j
  · subst hj
    have l := (List.getElem?_eq_some_iff.mp a).1
    have l2 := (List.getElem?_eq_some_iff.mp b).1
    rw [List.length_set] at l l2
    rw [List.getElem?_set_self l] at a
    rw [List.getElem?_set_self l2] at b
    cases a; cases b
    exact hv
  · rw [List.getElem?_set_ne hj] at a b
    exact h.2 j w e a b
theorem ItsAt.append {us : List V} {es : List PyData} (h : ItsAt H vs ds) (g : ItsAt H us es) : ItsAt H (vs ++ us) (ds ++ es) := by
  refine ⟨by rw [List.length_append, List.length_append, h.1, g.1], fun j w e a b => ?_⟩
  by_cases hj : j < vs.length
  · rw [List.getElem?_append_left hj] at a
    rw [List.getElem?_append_left (by have := h.1; omega)] at b
    exact h.2 j w e a b
  · rw [List.getElem?_append_right (by omega)] at a
    rw [List.getElem?_append_right (by have := h.1; omega), ← h.1] at b
    exact g.2 _ w e a b
theorem ItsAt.take (h : ItsAt H vs ds) (n : Nat) : ItsAt H (vs.take n) (ds.take n) := by
  refine ⟨by rw [List.length_take, List.length_take, h.1], fun j w e a b => ?_⟩
  rw [List.getElem?_take] at a b
  split at a
  · next q => rw [if_pos q] at b; exact h.2 j w e a b
  · cases a
theorem ItsAt.drop (h : ItsAt H vs ds) (n : Nat) : ItsAt H (vs.drop n) (ds.drop n) := by
  refine ⟨by rw [List.length_drop, List.length_drop, h.1], fun j w e a b => ?_⟩
  rw [List.getElem?_drop] at a b
  exact h.2 _ w e a b
theorem ItsAt.one (hv : It H v d) : ItsAt H [v] [d] := ⟨rfl, fun i w e a b => by
  cases i with
  | zero => cases a; cases b; exact hv
  | succ i => cases a⟩
end
/-! #### good ones -/
section
variable {H H' : Hp} {v : V}
theorem tk_it {t : Tk} (h : TkAt H v t) : It H v (tkD t) := by
  cases t with
  | cells n => have e : v = .int n := h; subst e; exact .fl (.int n) rfl
  | fit => have e : v = .str "fit" := h; subst e; exact .fl (.str "fit") rfl
  | share k => obtain ⟨r, rfl, g⟩ := h; exact .tup (ds := [.str "share", .int k]) g rfl
theorem tk_fine (t : Tk) : fineD (tkD t) = true := by
  have := tkD_can t
  unfold fineD
  rw [this.1, decide_eq_true this.2]
  cases t <;> rfl
theorem tk_ok {t : Tk} (h : t.ok) : trackB (tkD t) = true := by
  cases t with
  | cells n => show (decide (0 ≤ n) || _) = true; rw [decide_eq_true (show 0 ≤ n from h)]; rfl
  | fit => rfl
  | share k =>
    show (decide (V.str "share" = V.str "share") && decide (1 ≤ k)) = true
    rw [decide_eq_true (show 1 ≤ k from h), decide_eq_true rfl]; rfl
theorem ask_it {q : Ask3} (h : AskAt H v q) : It H v (askD q) := by
  obtain ⟨r, rfl, g⟩ := h
  exact .tup (ds := [.int (q.1 : Int), .int (q.2.1 : Int), .int q.2.2]) g rfl
theorem ask_ok {n : Nat} {q : Ask3} (h : AskOk n q) : askB (n : Int) (askD q) = true := by
  obtain ⟨o1, o2, o3⟩ := h
  show (decide ((0 : Int) ≤ (q.1 : Int)) && decide ((1 : Int) ≤ (q.2.1 : Int)) && decide ((q.1 : Int) + (q.2.1 : Int) ≤ (n : Int)) && decide (0 ≤ q.2.2)) = true
  rw [decide_eq_true (by omega), decide_eq_true (by omega), decide_eq_true (by omega), decide_eq_true o3]; rfl
theorem tks_its {vs : List V} {ts : List Tk} (h : TksAt H vs ts) : ItsAt H vs (ts.map tkD) := by
  refine ⟨by rw [List.length_map]; exact h.1, fun i v d a b => ?_⟩
  obtain ⟨t, ht, hat⟩ := h.at' a
  rw [List.getElem?_map, ht] at b
  cases b
  exact tk_it hat
theorem asks_its {vs : List V} {qs : List Ask3} (h : AsksAt H vs qs) : ItsAt H vs (qs.map askD) := by
  refine ⟨by rw [List.length_map]; exact h.1, fun i v d a b => ?_⟩
  obtain ⟨t, ht, hat⟩ := h.at' a
  rw [List.getElem?_map, ht] at b
  cases b
  exact ask_it hat
end
/-! #### lists of them -/
inductive TrsAt (H : Hp) : V → Bool → Prop
  | no {t : V} {ty : String} (h : Ty7 H t ty) (n : ty ≠ "list") : TrsAt H t false
  | lst {a : Addr} {xs : List V} {ds : List PyData} {b : Bool} (g : H a = some (.lst xs)) (its : ItsAt H xs ds) (f : ∀ d ∈ ds, fineD d = true) (n : ds.length ≤ 1000) (e : b = (!ds.isEmpty && ds.all trackB)) : TrsAt H (.ref a) b
inductive AsksB (H : Hp) (n : Int) : V → Bool → Prop
  | no {t : V} {ty : String} (h : Ty7 H t ty) (nl : ty ≠ "list") : AsksB H n t false
  | lst {a : Addr} {xs : List V} {ds : List PyData} {b : Bool} (g : H a = some (.lst xs)) (its : ItsAt H xs ds) (l : ds.length ≤ 1000) (e : b = ds.all (askB n)) : AsksB H n (.ref a) b
section
variable {H H' : Hp} {v : V} {b : Bool}
theorem TrsAt.mono (h : TrsAt H v b) (s : Same H H') : TrsAt H' v b := by
  cases h with
  | no h n => exact .no (h.mono s) n
  | lst g its f n e => exact .lst (s _ _ g) (its.mono s) f n e
theorem AsksB.mono {n : Int} (h : AsksB H n v b) (s : Same H H') : AsksB H' n v b := by
  cases h with
  | no h n => exact .no (h.mono s) n
  | lst g its l e => exact .lst (s _ _ g) (its.mono s) l e
theorem trs_good {a : Addr} {xs : List V} {ts : List Tk} (g : H a = some (.lst xs)) (h : TksAt H xs ts) (ok : ∀ t ∈ ts, t.ok) (ne : ts ≠ []) (n : ts.length ≤ 1000) : TrsAt H (.ref a) true := by
  refine .lst g (tks_its h) (fun d hd => ?_) (by rw [List.length_map]; exact n) ?_
  · obtain ⟨t, _, rfl⟩ := List.mem_map.mp hd
    exact tk_fine t
  · have e1 : (ts.map tkD).all trackB = true := List.all_eq_true.mpr fun d hd => by
      obtain ⟨t, ht, rfl⟩ := List.mem_map.mp hd
      exact tk_ok (ok t ht)
    rw [e1]
    cases ts with
    | nil => exact absurd rfl ne
    | cons t ts => rfl
theorem asks_good {a : Addr} {n : Nat} {xs : List V} {qs : List Ask3} (g : H a = some (.lst xs)) (h : AsksAt H xs qs) (ok : ∀ q ∈ qs, AskOk n q) (l : qs.length ≤ 1000) : AsksB H (n : Int) (.ref a) true := by
  refine .lst g (asks_its h) (by rw [List.length_map]; exact l) ?_
  exact (List.all_eq_true.mpr fun d hd => by
      obtain ⟨q, hq, rfl⟩ := List.mem_map.mp hd
      exact ask_ok (ok q hq)).symm
end
/-- good tracks -/
structure Gt (H : Hp) (t : V) (ts : List Tk) : Prop where
  ex : ∃ a xs, t = .ref a ∧ H a = some (.lst xs) ∧ TksAt H xs ts
  ok : ∀ t ∈ ts, t.ok
  ne : ts ≠ []
  n : ts.length ≤ 1000
structure Ga (H : Hp) (n : Nat) (t : V) (qs : List Ask3) : Prop where
  ex : ∃ a xs, t = .ref a ∧ H a = some (.lst xs) ∧ AsksAt H xs qs
  ok : ∀ q ∈ qs, AskOk n q
  n : qs.length ≤ 1000
/-- how a call ends: 0 told, 1 no track, 2 no ask, 3 no number -/
inductive Way (H : Hp) (t a g : V) : Nat → Prop
  | told {ts : List Tk} {qs : List Ask3} {k : Int} (h : Gt H t ts) (ha : Ga H ts.length a qs) (e : g = .int k) (k0 : 0 ≤ k) : Way H t a g 0
  | track (h : TrsAt H t false) : Way H t a g 1
  | ask {ts : List Tk} (h : Gt H t ts) (ha : AsksB H (ts.length : Int) a false) : Way H t a g 2
  | number {ts : List Tk} {qs : List Ask3} {ty : String} (h : Gt H t ts) (ha : Ga H ts.length a qs) (e : Ty7 H g ty) (n : isN g = false) : Way H t a g 3
section
variable {H H' : Hp} {t a g : V} {w : Nat}
theorem Gt.mono {ts : List Tk} (h : Gt H t ts) (s : Same H H') : Gt H' t ts := ⟨let ⟨a, xs, e, g, k⟩ := h.ex; ⟨a, xs, e, s _ _ g, k.mono s⟩, h.ok, h.ne, h.n⟩
theorem Ga.mono {n : Nat} {qs : List Ask3} (h : Ga H n t qs) (s : Same H H') : Ga H' n t qs := ⟨let ⟨a, xs, e, g, k⟩ := h.ex; ⟨a, xs, e, s _ _ g, k.mono s⟩, h.ok, h.n⟩
theorem Gt.trs {ts : List Tk} (h : Gt H t ts) : TrsAt H t true := by
  obtain ⟨a, xs, rfl, g, k⟩ := h.ex
  exact trs_good g k h.ok h.ne h.n
theorem Ga.asks {n : Nat} {qs : List Ask3} (h : Ga H n t qs) : AsksB H (n : Int) t true := by
  obtain ⟨a, xs, rfl, g, k⟩ := h.ex
  exact asks_good g k h.ok h.n
theorem Way.mono (h : Way H t a g w) (s : Same H H') : Way H' t a g w := by
  cases h with
  | told h ha e k0 => exact .told (h.mono s) (ha.mono s) e k0
  | track h => exact .track (h.mono s)
  | ask h ha => exact .ask (h.mono s) (ha.mono s)
  | number h ha e n => exact .number (h.mono s) (ha.mono s) (e.mono s) n
end
end My
namespace My
open PySem L2
def trackAt (ds : List PyData) (i : Nat) : Bool := match ds[i]? with
  | some d => trackB d
  | none => false
theorem trackAt_of {ds : List PyData} {i : Nat} {d : PyData} (h : ds[i]? = some d) : trackAt ds i = trackB d := by unfold trackAt; rw [h]
theorem at_all {f : PyData → Bool} {g : Nat → Bool} {ds : List PyData} (h : ∀ i d, ds[i]? = some d → g i = f d) : (List.range ds.length).map g = ds.map f := by
  apply List.ext_getElem?
  intro i
  rw [List.getElem?_map, List.getElem?_map]
  by_cases hi : i < ds.length
  · rw [List.getElem?_range hi, List.getElem?_eq_getElem hi]
    show some (g i) = some (f ds[i])
    rw [h i _ (List.getElem?_eq_getElem hi)]
  · rw [List.getElem?_eq_none (by rw [List.length_range]; omega), List.getElem?_eq_none (by omega)]; rfl
theorem trackAt_all {ds : List PyData} : (List.range ds.length).map (fun i => trackAt ds i) = ds.map trackB := at_all fun i d h => trackAt_of h
def askAt (n : Int) (ds : List PyData) (i : Nat) : Bool := match ds[i]? with
  | some d => askB n d
  | none => false
theorem askAt_of {n : Int} {ds : List PyData} {i : Nat} {d : PyData} (h : ds[i]? = some d) : askAt n ds i = askB n d := by unfold askAt; rw [h]
theorem askAt_all {n : Int} {ds : List PyData} : (List.range ds.length).map (fun i => askAt n ds i) = ds.map (askB n) := at_all fun i d h => askAt_of h
theorem fine_shaped {ds : List PyData} (h : ∀ d ∈ ds, fineD d = true) : SeqAt.shaped (.list ds) = true := by
  have f1 : ∀ d : {d // fineD d = true}, d.1.canLay0 = true := fun d => by
    have := d.2; unfold fineD at this; rw [Bool.and_eq_true, Bool.and_eq_true] at this; exact this.1.1
  have f2 : ∀ d : {d // fineD d = true}, d.1.depth ≤ 1 := fun d => by
    have := d.2; unfold fineD at this; rw [Bool.and_eq_true, Bool.and_eq_true] at this; exact of_decide_eq_true this.1.2
  have := shaped_map (m := 1) (g := fun d : {d // fineD d = true} => d.1) (by decide) f1 f2 (ds.attachWith _ h)
  rwa [List.attachWith_map_subtype_val] at this
end My
namespace My
open PySem L2
theorem pick_all {P : V → Prop} {xs : List V} {n : Int} (h0 : 0 ≤ n) (h1 : n < xs.length) (h : ∀ x ∈ xs, P x) : ∃ x, atI xs n = some x ∧ P x := by
  obtain ⟨k, rfl⟩ := Int.eq_ofNat_of_zero_le h0
  have hk : k < xs.length := by omega
  exact ⟨xs[k], atI_nat (List.getElem?_eq_getElem hk), h _ (List.getElem_mem hk)⟩
theorem all_c {P : V → Prop} {x : V} {xs : List V} (h : P x) (t : ∀ y ∈ xs, P y) : ∀ y ∈ x :: xs, P y := List.forall_mem_cons.mpr ⟨h, t⟩
theorem all_n {P : V → Prop} : ∀ y ∈ ([] : List V), P y := fun _ h => by cases h
/-- a bad one that is new, by a test -/
def Bad (f : PyData → Bool) (H0 H : Hp) (v : V) : Prop := ∃ d, It H v d ∧ f d = true ∧ ∀ r, v = .ref r → H0 r = none
section
variable {f : PyData → Bool} {H0 H H' : Hp} {v : V}
theorem bad_fl (d : PyData) (h : flatD d = true) (b : f d = true) : Bad f H0 H (flV d) := ⟨d, .fl d h, b, fun r e => by cases d <;> first | (cases e; done) | cases h⟩
theorem bad_tup {r : Addr} (ds : List PyData) (g : H r = some (.tup (ds.map flV))) (h : ds.all flatD = true) (b : f (.tuple ds) = true) (n : H0 r = none) : Bad f H0 H (.ref r) := ⟨.tuple ds, .tup g h, b, fun r' e => by cases e; exact n⟩
theorem bad_lst {r : Addr} (ds : List PyData) (g : H r = some (.lst (ds.map flV))) (h : ds.all flatD = true) (b : f (.list ds) = true) (n : H0 r = none) : Bad f H0 H (.ref r) := ⟨.list ds, .lst g h, b, fun r' e => by cases e; exact n⟩
theorem Bad.dr {s : Addr} (h : Bad f H0 H v) (hs : Src H0 s) (d : Dr s H H') : Bad f H0 H' v := by
  obtain ⟨x, hi, b, n⟩ := h
  obtain ⟨z, hz⟩ := hs
  exact ⟨x, hi.but d.b (fun e => by rw [n s e] at hz; cases hz), b, n⟩
end
end My
namespace My
open PySem L2
theorem Bad.dr' {f : PyData → Bool} {H0 H H' : Hp} {v : V} {s : Addr} (h : Bad f H0 H v) (hs : Src H0 s) (_ : Src H s) (d : Dr s H H') : Bad f H0 H' v := h.dr hs d
end My
namespace My
open PySem L2
theorem pick_all' {P : V → Prop} {xs : List V} {n : Int} (h : ∀ x ∈ xs, P x) (h0 : 0 ≤ n) (h1 : n < xs.length) : ∃ x, atI xs n = some x ∧ P x := pick_all h0 h1 h
theorem ask_b1 (n : Int) : (!askB n (.tuple [.int 0, .int (n + 1), .int 5])) = true := by
  show (!(decide ((0 : Int) ≤ 0) && decide (1 ≤ n + 1) && decide (0 + (n + 1) ≤ n) && isN (.int 5))) = true
  rw [decide_eq_false (p := 0 + (n + 1) ≤ n) (by omega)]; simp
theorem ask_b2 (n : Int) : (!askB n (.tuple [.int n, .int 1, .int 5])) = true := by
  show (!(decide (0 ≤ n) && decide ((1 : Int) ≤ 1) && decide (n + 1 ≤ n) && isN (.int 5))) = true
  rw [decide_eq_false (p := n + 1 ≤ n) (by omega)]; simp
end My

/-! ### spots of grids: things that may be none -/
namespace My
open PySem L2
/-- a stretch that stands among so many: first, many -/
def strchB (f m : V) (n : Int) : Bool := match f, m with
  | .int a, .int b => decide (0 ≤ a) && (decide (1 ≤ b) && decide (a + b ≤ n))
  | _, _ => false
/-- a thing: a tuple of plain things, or no tuple -/
inductive ThAt (H : Hp) : V → Option (List V) → Prop
  | tup (a : Addr) (xs : List V) (h : H a = some (.tup xs)) (hx : ∀ x ∈ xs, ∃ t, Ty7 H x t) : ThAt H (.ref a) (some xs)
  | other (v : V) (t : String) (h : Ty7 H v t) (n : t ≠ "tuple") : ThAt H v none
theorem ThAt.same {H H' : Hp} {v : V} {o : Option (List V)} (h : ThAt H v o) (s : Same H H') : ThAt H' v o := by
  cases h with
  | tup a xs h hx => exact .tup a xs (s _ _ h) fun x m => let ⟨t, k⟩ := hx x m; ⟨t, k.mono s⟩
  | other v t h n => exact .other v t (h.mono s) n
def spotB (c r : Int) : Option (List V) → Bool
  | some [x, y, w, d] => strchB x w c && strchB y d r
  | _ => false
theorem stretch_int {f m : V} {n : Int} (h : strchB f m n = true) : ∃ a b : Int, f = .int a ∧ m = .int b ∧ 0 ≤ a ∧ 1 ≤ b ∧ a + b ≤ n := by
  unfold strchB at h
  split at h
  · rename_i a b
    simp only [Bool.and_eq_true, decide_eq_true_eq] at h
    exact ⟨a, b, rfl, rfl, h.1, h.2.1, h.2.2⟩
  · cases h
/-- four whole numbers as they stand -/
def four4 (x y w d : Int) : Option (List V) := some [.int x, .int y, .int w, .int d]
theorem spot_int {c r : Int} {o : Option (List V)} (h : spotB c r o = true) : ∃ x y w d : Int, o = four4 x y w d ∧ 0 ≤ x ∧ 1 ≤ w ∧ x + w ≤ c ∧ 0 ≤ y ∧ 1 ≤ d ∧ y + d ≤ r := by
  unfold spotB at h
  split at h
  · rename_i x y w d
    rw [Bool.and_eq_true] at h
    obtain ⟨a, b, rfl, rfl, h1, h2, h3⟩ := stretch_int h.1
    obtain ⟨a', b', rfl, rfl, h4, h5, h6⟩ := stretch_int h.2
    exact ⟨_, _, _, _, rfl, h1, h2, h3, h4, h5, h6⟩
  · cases h
def apartI (x y w d x' y' w' d' : Int) : Bool := (decide (x + w ≤ x') || decide (x' + w' ≤ x)) || (decide (y + d ≤ y') || decide (y' + d' ≤ y))
def apartO : Option (List V) → Option (List V) → Bool
  | some [.int x, .int y, .int w, .int d], some [.int x', .int y', .int w', .int d'] => apartI x y w d x' y' w' d'
  | _, _ => false
/-- each one stands, and apart from those ahead -/
def stB (c r : Int) : List (Option (List V)) → List (Option (List V)) → Bool
  | _, [] => true
  | pre, o :: t => (spotB c r o && pre.all (apartO o)) && stB c r (pre ++ [o]) t
def ThsAt (H : Hp) (vs : List V) (os : List (Option (List V))) : Prop := vs.length = os.length ∧ ∀ (i : Nat) (v : V) (o : Option (List V)), vs[i]? = some v → os[i]? = some o → ThAt H v o
theorem ThsAt.same {H H' : Hp} {vs : List V} {os : List (Option (List V))} (h : ThsAt H vs os) (s : Same H H') : ThsAt H' vs os := ⟨h.1, fun i v o e1 e2 => (h.2 i v o e1 e2).same s⟩
theorem ThsAt.take {H : Hp} {vs : List V} {os : List (Option (List V))} (h : ThsAt H vs os) (p : Nat) : ThsAt H (vs.take p) (os.take p) := ⟨by rw [List.length_take, List.length_take, h.1], fun i v o e1 e2 => by
  rw [List.getElem?_take] at e1 e2
  split at e1
  · rename_i hi
    rw [if_pos hi] at e2
    exact h.2 i v o e1 e2
  · cases e1⟩
theorem ThAt.four {H : Hp} {v : V} {x y w d : Int} (h : ThAt H v (four4 x y w d)) : ∃ a, v = .ref a ∧ H a = some (.tup [.int x, .int y, .int w, .int d]) := by
  unfold four4 at h
  cases h with
  | tup a xs h hx => exact ⟨a, rfl, h⟩
theorem all_getD (pre : List (Option (List V))) (f : Option (List V) → Bool) : ((List.range pre.length).map fun i => f (pre.getD i none)).all id = pre.all f := by
  have e : ((List.range pre.length).map fun i => f (pre.getD i none)) = pre.map f := by
    refine List.ext_getElem? fun i => ?_
    rw [List.getElem?_map, List.getElem?_map]
    by_cases h : i < pre.length
    · rw [List.getElem?_range h, List.getElem?_eq_getElem h]
      show some (f (pre.getD i none)) = some (f pre[i])
      rw [List.getD_eq_getElem?_getD, List.getElem?_eq_getElem h]; rfl
    · rw [List.getElem?_eq_none (l := List.range pre.length) (by rw [List.length_range]; omega), List.getElem?_eq_none (l := pre) (by omega)]; rfl
  rw [e, List.all_map]; rfl
theorem stB_take {c r : Int} : ∀ (os pre : List (Option (List V))), stB c r pre os = true → ∀ o ∈ os, spotB c r o = true
  | [], _, _, _, m => by cases m
  | o :: t, pre, h, q, m => by
    rw [stB, Bool.and_eq_true, Bool.and_eq_true] at h
    rcases List.mem_cons.mp m with rfl | m
    · exact h.1.1
    · exact stB_take t _ h.2 q m
/-- what holds of the first so many -/
theorem stB_step {c r : Int} (os : List (Option (List V))) (pre : List (Option (List V))) : stB c r pre os = true ↔ ∀ p o, os[p]? = some o → (spotB c r o && (pre ++ os.take p).all (apartO o)) = true := by
  induction os generalizing pre with
  | nil => exact ⟨fun _ p o h => by simp at h, fun _ => rfl⟩
  | cons a t ih =>
    rw [stB, Bool.and_eq_true]
    constructor
    · rintro ⟨h1, h2⟩ p o h
      cases p with
      | zero => simp only [List.getElem?_cons_zero, Option.some.injEq] at h; subst h; simpa using h1
      | succ p => have := (ih (pre ++ [a])).mp h2 p o (by simpa using h); simpa [List.append_assoc] using this
    · intro h
      refine ⟨?_, (ih (pre ++ [a])).mpr fun p o hp => ?_⟩
      · have := h 0 a rfl; simpa using this
      · have := h (p + 1) o (by simpa using hp); simpa [List.append_assoc] using this
/-- an instance of a class -/
def InsC (C : Addr) (H : Hp) (v : V) : Prop := ∃ a dx fs, v = .ref a ∧ H a = some (.ins C dx fs)
theorem InsC.same {C : Addr} {H H' : Hp} {v : V} (h : InsC C H v) (s : Same H H') : InsC C H' v := let ⟨a, dx, fs, e, g⟩ := h; ⟨a, dx, fs, e, s _ _ g⟩
theorem upd_gen {R : Hp → Prop} {H : Hp} {x : Addr} {o : HO} (h : ∀ H2, But x H H2 → H2 x = some o → R H2) : R (upd H x o) := h _ But.refl.upd upd_same
/-! #### things as data -/
def toO : PyData → Option (List V)
  | .tuple ds => some (ds.map flV)
  | _ => none
def CelD (d : PyData) : Prop := d.canLay0 = true ∧ d.depth ≤ 1
theorem ty_flat : ∀ {d : PyData}, flatD d = true → tyD d ≠ "tuple"
  | .none, _ => (by decide : ("NoneType" : String) ≠ "tuple")
  | .bool _, _ => (by decide : ("bool" : String) ≠ "tuple")
  | .int _, _ => (by decide : ("int" : String) ≠ "tuple")
  | .str _, _ => (by decide : ("str" : String) ≠ "tuple")
  | .list _, h => by cases h
  | .tuple _, h => by cases h
  | .dict _, h => by cases h
theorem it_th {H : Hp} {v : V} {d : PyData} (h : It H v d) : ThAt H v (toO d) := by
  cases h with
  | fl d f =>
    have e : toO d = none := by cases d <;> first | rfl | cases f
    rw [e]
    exact .other _ (tyD d) (fl_t7 f) (ty_flat f)
  | @tup r ds g f =>
    refine .tup r _ g fun x m => ?_
    obtain ⟨d, hd, rfl⟩ := List.mem_map.mp m
    exact ⟨_, fl_t7 (List.all_eq_true.mp f d hd)⟩
  | @lst r ds g f => exact .other _ "list" (.lst g) (by decide)
theorem its_ths {H : Hp} {vs : List V} {ds : List PyData} (h : ItsAt H vs ds) : ThsAt H vs (ds.map toO) := ⟨by rw [List.length_map, h.1], fun i v o e1 e2 => by
  rw [List.getElem?_map] at e2
  obtain ⟨d, hd, hi⟩ := h.at' e1
  rw [hd] at e2
  cases e2
  exact it_th hi⟩
def cel4 (x y w d : Int) : PyData := .tuple [.int x, .int y, .int w, .int d]
theorem cel4_o (x y w d : Int) : toO (cel4 x y w d) = four4 x y w d := rfl
theorem cel4_c (x y w d : Int) : CelD (cel4 x y w d) := by simp [CelD, cel4, PyData.canLay0, PyData.canLayAll0, PyData.depth, PyData.depthAll]
theorem cels_shaped {ds : List PyData} (h : ∀ d ∈ ds, CelD d) : SeqAt.shaped (.list ds) = true := by
  have := shaped_map (m := 1) (g := fun d : {d // CelD d} => d.1) (by decide) (fun d => d.2.1) (fun d => d.2.2) (ds.attachWith _ h)
  rwa [List.attachWith_map_subtype_val] at this
/-- a dict with tuples as keys, empty -/
def tDNewTA : TE := fun _ H Q => New H (.dT []) Q
theorem pe_dnewTA {X : Cx} {pos : Pos} : PE X (.Dict [] [] pos) tDNewTA := pe_imp pe_dnewT fun _ _ _ h => h.go
/-- four whole numbers in a tuple -/
def IsC4 (d : PyData) : Prop := ∃ x y w h : Int, d = cel4 x y w h ∧ -100 ≤ x ∧ x ≤ 100
/-- a source and a dict may change -/
def But2 (a b : Addr) (H H' : Hp) : Prop := ∀ c o, c ≠ a → c ≠ b → H c = some o → H' c = some o
structure Dg (a g : Addr) (H H' : Hp) : Prop where
  s : Src H' a
  b : But2 a g H H'
theorem But2.trans {a b : Addr} {H H1 H2 : Hp} (p : But2 a b H H1) (q : But2 a b H1 H2) : But2 a b H H2 := fun c o n m h => q c o n m (p c o n m h)
theorem But2.of {a b : Addr} {H H1 : Hp} (p : Same H H1) : But2 a b H H1 := fun c o _ _ h => p c o h
theorem But2.l {a b : Addr} {H H1 : Hp} (p : But a H H1) : But2 a b H H1 := fun c o n _ h => p c o n h
theorem But2.r {a b : Addr} {H H1 : Hp} (p : But b H H1) : But2 a b H H1 := fun c o _ n h => p c o n h
theorem Dg.trans {a b : Addr} {H H1 H2 : Hp} (p : Dg a b H H1) (q : Dg a b H1 H2) : Dg a b H H2 := ⟨q.s, p.b.trans q.b⟩
theorem Dg.refl {a b : Addr} {H : Hp} (h : Src H a) : Dg a b H H := ⟨h, fun _ _ _ _ h => h⟩
theorem Dg.same {a b : Addr} {H H1 H2 : Hp} (p : Dg a b H H1) (q : Same H1 H2) : Dg a b H H2 := ⟨p.s.same q, p.b.trans (.of q)⟩
theorem Dg.dr {a b : Addr} {H H1 H2 : Hp} (p : Dg a b H H1) (q : Dr a H1 H2) : Dg a b H H2 := ⟨q.s, p.b.trans (.l q.b)⟩
theorem Dg.set {a b : Addr} {H H1 H2 : Hp} (p : Dg a b H H1) (q : But b H1 H2) (n : a ≠ b) : Dg a b H H2 := ⟨p.s.but q n, p.b.trans (.r q)⟩
/-- .. a list that was not there, too -/
theorem Dg.mut {a b l : Addr} {H H1 H2 : Hp} (p : Dg a b H H1) (q : But l H1 H2) (n : H l = none) (na : a ≠ l) : Dg a b H H2 := ⟨p.s.but q na, fun c o h1 h2 h => q _ _ (ne_of_none h n) (p.b c o h1 h2 h)⟩
/-- a list of such -/
def Cs4 (H : Hp) (us : List V) (ds : List PyData) : Prop := ItsAt H us ds ∧ ∀ d ∈ ds, IsC4 d
theorem c4_it {H : Hp} {p : Addr} {x y w h : Int} (g : H p = some (.tup [.int x, .int y, .int w, .int h])) : It H (.ref p) (cel4 x y w h) := .tup (ds := [.int x, .int y, .int w, .int h]) g rfl
theorem It.four {H : Hp} {v : V} {x y w h : Int} (i : It H v (cel4 x y w h)) : ∃ p, v = .ref p ∧ H p = some (.tup [.int x, .int y, .int w, .int h]) := by
  unfold cel4 at i
  cases i with
  | fl _ f => cases f
  | tup g f => exact ⟨_, rfl, g⟩
theorem Cs4.nil {H : Hp} : Cs4 H [] [] := ⟨⟨rfl, fun i v d e => by simp at e⟩, fun d h => by cases h⟩
theorem Cs4.same {H H' : Hp} {us : List V} {ds : List PyData} (h : Cs4 H us ds) (s : Same H H') : Cs4 H' us ds := ⟨h.1.mono s, h.2⟩
theorem Cs4.gen {H H' : Hp} {us : List V} {ds : List PyData} (h : Cs4 H us ds) (s : ∀ p xs, H p = some (.tup xs) → H' p = some (.tup xs)) : Cs4 H' us ds := ⟨⟨h.1.1, fun i v d e1 e2 => by
  have hi := h.1.2 i v d e1 e2
  obtain ⟨x, y, w, k, rfl, _⟩ := h.2 d (List.mem_of_getElem? e2)
  obtain ⟨p, rfl, g⟩ := hi.four
  exact c4_it (s _ _ g)⟩, h.2⟩
theorem Cs4.but {H H' : Hp} {us : List V} {ds : List PyData} {a : Addr} {zs : List V} (h : Cs4 H us ds) (b : But a H H') (g : H a = some (.lst zs)) : Cs4 H' us ds := h.gen fun p xs e => b _ _ (by rintro rfl; rw [g] at e; cases e) e
theorem Cs4.dr {H H' : Hp} {us : List V} {ds : List PyData} {a : Addr} (h : Cs4 H us ds) (d : Dr a H H') (g : Src H a) : Cs4 H' us ds := let ⟨_, e⟩ := g; h.but d.b e
theorem Cs4.dg {H H' : Hp} {us : List V} {ds : List PyData} {a g : Addr} {kvs : List (List Key × V)} (h : Cs4 H us ds) (d : Dg a g H H') (s : Src H a) (e : H g = some (.dT kvs)) : Cs4 H' us ds :=
  h.gen fun p xs q => d.b _ _ (by rintro rfl; obtain ⟨_, z⟩ := s; rw [z] at q; cases q) (by rintro rfl; rw [e] at q; cases q) q
theorem Cs4.snoc {H : Hp} {us : List V} {ds : List PyData} {p : Addr} {x y w k : Int} (h : Cs4 H us ds) (g : H p = some (.tup [.int x, .int y, .int w, .int k])) (b : -100 ≤ x ∧ x ≤ 100) : Cs4 H (us ++ [.ref p]) (ds ++ [cel4 x y w k]) :=
  ⟨h.1.append (.one (c4_it g)), fun d m => by
    rcases List.mem_append.mp m with m | m
    · exact h.2 d m
    · rw [List.mem_singleton.mp m]; exact ⟨_, _, _, _, rfl, b⟩⟩
/-- a list of pairs of whole numbers -/
inductive C2s (H : Hp) : List V → List (Int × Int) → Prop
  | nil : C2s H [] []
  | cons {p : Addr} {x y : Int} {us : List V} {cs : List (Int × Int)} (g : H p = some (.tup [.int x, .int y])) (b : -100 ≤ x ∧ x ≤ 100) (t : C2s H us cs) : C2s H (.ref p :: us) ((x, y) :: cs)
theorem C2s.gen {H H' : Hp} (s : ∀ p xs, H p = some (.tup xs) → H' p = some (.tup xs)) : ∀ {us : List V} {cs : List (Int × Int)}, C2s H us cs → C2s H' us cs
  | _, _, .nil => .nil
  | _, _, .cons g b t => .cons (s _ _ g) b (t.gen s)
theorem C2s.same {H H' : Hp} {us : List V} {cs : List (Int × Int)} (h : C2s H us cs) (s : Same H H') : C2s H' us cs := h.gen fun p xs e => s _ _ e
theorem C2s.but {H H' : Hp} {us : List V} {cs : List (Int × Int)} {a : Addr} {zs : List V} (h : C2s H us cs) (b : But a H H') (g : H a = some (.lst zs)) : C2s H' us cs := h.gen fun p xs e => b _ _ (by rintro rfl; rw [g] at e; cases e) e
theorem C2s.snoc {H : Hp} {p : Addr} {x y : Int} (g : H p = some (.tup [.int x, .int y])) (b : -100 ≤ x ∧ x ≤ 100) : ∀ {us : List V} {cs : List (Int × Int)}, C2s H us cs → C2s H (us ++ [.ref p]) (cs ++ [(x, y)])
  | _, _, .nil => .cons g b .nil
  | _, _, .cons h b' t => .cons h b' (t.snoc g b)
theorem C2s.dp {K : PySem.W.Frag} {H : Hp} : ∀ {us : List V} {cs : List (Int × Int)}, C2s H us cs → DpAll K H us (cs.map fun c => .tuple [.int c.1, .int c.2])
  | _, _, .nil => .nil
  | _, _, .cons h _ t => .cons (.tup (sqT h) (.cons (.int _) (.cons (.int _) .nil))) t.dp
theorem C2s.at {H : Hp} : ∀ {us : List V} {cs : List (Int × Int)} {i : Nat} {v : V}, C2s H us cs → us[i]? = some v → ∃ p x y, v = .ref p ∧ H p = some (.tup [.int x, .int y]) ∧ -100 ≤ x ∧ x ≤ 100
  | _, _, i, v, .nil, h => by simp at h
  | _, _, 0, v, .cons g b t, h => by simp only [List.getElem?_cons_zero, Option.some.injEq] at h; subst h; exact ⟨_, _, _, rfl, g, b⟩
  | _, _, i + 1, v, .cons g b t, h => t.at (by simpa using h)
theorem C2s.shaped (cs : List (Int × Int)) : SeqAt.shaped (.list (cs.map fun c => .tuple [.int c.1, .int c.2])) = true := shaped_map (m := 1) (by decide) (fun c => by simp [PyData.canLay0, PyData.canLayAll0]) (fun c => by simp [PyData.depth, PyData.depthAll]) cs
theorem C2s.len {H : Hp} : ∀ {us : List V} {cs : List (Int × Int)}, C2s H us cs → us.length = cs.length
  | _, _, .nil => rfl
  | _, _, .cons _ _ t => congrArg Nat.succ t.len
theorem PyData_cons_nil {d : PyData} {ds : List PyData} : PyData.eqv (.list (d :: ds)) (.list []) = false := by simp [PyData.eqv, PyData.eqvAll]
theorem Dg.free {s g q : Addr} {H H1 : Hp} {o : HO} (d : Dg s g H H1) (e : H1 g = some o) (f : H1 q = none) : H q = none := by
  cases z : H q with
  | none => rfl
  | some u =>
    have n1 : q ≠ s := by rintro rfl; obtain ⟨_, y⟩ := d.s; rw [f] at y; cases y
    have n2 : q ≠ g := by rintro rfl; rw [f] at e; cases e
    rw [d.b _ _ n1 n2 z] at f
    cases f
theorem small1000' {n : Nat} (h : n ≤ 100000) : n < sizeLine := Nat.lt_of_le_of_lt h (by decide)
theorem spot_no {x y w d : V} {c r : Int} (h : (isI x && (isI y && (isI w && isI d))) = false) : spotB c r (some [x, y, w, d]) = false := by
  cases e : spotB c r (some [x, y, w, d]) with
  | false => rfl
  | true =>
    obtain ⟨X, Y, W, D, e2, _⟩ := spot_int e
    unfold four4 at e2
    cases e2
    cases h
theorem its_nil {H : Hp} : ItsAt H [] [] := ⟨rfl, fun i v d e => by simp at e⟩
theorem its_cons {H : Hp} {v : V} {d : PyData} {vs : List V} {ds : List PyData} (h : It H v d) (t : ItsAt H vs ds) : ItsAt H (v :: vs) (d :: ds) := (ItsAt.one h).append t
theorem tupI {H : Hp} {r : Addr} {ds : List PyData} (g : H r = some (.tup (ds.map flV))) (f : ds.all flatD = true) : It H (.ref r) (.tuple ds) := .tup g f
theorem all_cd {d : PyData} {ds : List PyData} (h : CelD d) (t : ∀ e ∈ ds, CelD e) : ∀ e ∈ d :: ds, CelD e := List.forall_mem_cons.mpr ⟨h, t⟩
theorem all_nd : ∀ e ∈ ([] : List PyData), CelD e := fun _ h => by cases h
/-- some things as data -/
def Its1 (H : Hp) (us : List V) : Prop := ∃ ds, ItsAt H us ds ∧ ∀ d ∈ ds, CelD d
theorem Its1.same {H H' : Hp} {us : List V} (h : Its1 H us) (s : Same H H') : Its1 H' us := let ⟨d, a, b⟩ := h; ⟨d, a.mono s, b⟩
theorem Its1.app {H : Hp} {us ws : List V} (h : Its1 H us) (k : Its1 H ws) : Its1 H (us ++ ws) := by
  obtain ⟨d, a, b⟩ := h
  obtain ⟨d', a', b'⟩ := k
  exact ⟨d ++ d', a.append a', fun e m => (List.mem_append.mp m).elim (b e) (b' e)⟩
theorem lstI {H : Hp} {r : Addr} {ds : List PyData} (g : H r = some (.lst (ds.map flV))) (f : ds.all flatD = true) : It H (.ref r) (.list ds) := .lst g f
theorem small_log {x : Int} (h : -100 ≤ x ∧ x ≤ 100) : x.natAbs.log2 < 1920 := Nat.lt_of_le_of_lt (Nat.log2_le_self _) (by omega)
theorem strOk_of (t : String) : PyData.strOk (Str.ofString t) = true := strOk_iff.mpr fun c hc => by
  have e : (Str.ofString t).cps.toList = t.toList.map Char.toNat := by
    show (cpsOfBytes 0 0 t.toByteArray.data.toList).toArray.toList = _
    rw [List.toList_toArray, cpsOfBytes_string]
  rw [e] at hc
  obtain ⟨ch, _, rfl⟩ := List.mem_map.mp hc
  have v : ch.val.isValidChar := ch.valid
  show ch.val.toNat < _
  rcases v with v | v
  · have : ch.val.toNat < 0xd800 := v
    omega
  · exact v.2
theorem its1_all {H : Hp} {us : List V} : Its1 H us ↔ ∀ v ∈ us, ∃ d, It H v d ∧ CelD d := by
  constructor
  · rintro ⟨ds, h, c⟩ v m
    obtain ⟨i, hi⟩ := List.getElem?_of_mem m
    obtain ⟨d, hd, it⟩ := h.at' hi
    exact ⟨d, it, c d (List.mem_of_getElem? hd)⟩
  · intro h
    induction us with
    | nil => exact ⟨[], its_nil, all_nd⟩
    | cons v t ih =>
      obtain ⟨d, it, c⟩ := h v (List.mem_cons_self ..)
      obtain ⟨ds, ht, ct⟩ := ih fun w m => h w (List.mem_cons_of_mem _ m)
      exact ⟨d :: ds, its_cons it ht, all_cd c ct⟩
theorem Its1.dr {H H' : Hp} {us : List V} {s : Addr} (h : Its1 H us) (d : Dr s H H') : Its1 H' us := its1_all.mpr fun v m => by
  obtain ⟨x, it, c⟩ := its1_all.mp h v m
  by_cases e : v = .ref s
  · subst e
    obtain ⟨⟨a, b, c⟩, g⟩ := d.s
    exact ⟨.list [.int a, .int b, .int c], .lst g rfl, by simp [CelD, PyData.canLay0, PyData.canLayAll0, PyData.depth, PyData.depthAll]⟩
  · exact ⟨x, it.but d.b e, c⟩
theorem Its1.sub {H : Hp} {us ws : List V} (h : Its1 H us) (m : ∀ v ∈ ws, v ∈ us) : Its1 H ws := its1_all.mpr fun v mv => its1_all.mp h v (m v mv)
theorem Cs4.its {H : Hp} {us : List V} {ds : List PyData} (h : Cs4 H us ds) : Its1 H us := ⟨ds, h.1, fun d m => by
  obtain ⟨x, y, w, k, rfl, _⟩ := h.2 d m
  exact cel4_c x y w k⟩
/-! #### cells of a grid -/
abbrev Sp4 := Int × Int × Int × Int
def InS (q : Sp4) (a b : Int) : Prop := q.1 ≤ a ∧ a < q.1 + q.2.2.1 ∧ q.2.1 ≤ b ∧ b < q.2.1 + q.2.2.2
def sp4 (q : Sp4) : Option (List V) := four4 q.1 q.2.1 q.2.2.1 q.2.2.2
def KeysI (kvs : List (List Key × V)) (S : Int → Int → Prop) : Prop := ∀ a b : Int, (valV kvs [.inl a, .inl b]).isSome = true ↔ S a b
theorem KeysI.put {kvs : List (List Key × V)} {S : Int → Int → Prop} (h : KeysI kvs S) (a0 b0 : Int) (v : V) : KeysI (putK kvs [.inl a0, .inl b0] v) (fun a b => S a b ∨ (a = a0 ∧ b = b0)) := fun a b => by
  rw [valV_put]
  by_cases e : ([.inl a, .inl b] : List Key) = [.inl a0, .inl b0]
  · rw [if_pos e]
    have : a = a0 ∧ b = b0 := by
      simp only [List.cons.injEq, Sum.inl.injEq, and_true] at e
      exact e
    exact ⟨fun _ => .inr this, fun _ => rfl⟩
  · rw [if_neg e, h a b]
    refine ⟨.inl, fun h => h.elim id fun k => absurd ?_ e⟩
    rw [k.1, k.2]
theorem KeysI.imp {kvs : List (List Key × V)} {S T : Int → Int → Prop} (h : KeysI kvs S) (e : ∀ a b, S a b ↔ T a b) : KeysI kvs T := fun a b => (h a b).trans (e a b)
/-- all of them stand -/
theorem all_sp4 {c r : Int} : ∀ {os : List (Option (List V))}, (∀ o ∈ os, spotB c r o = true) → ∃ qs : List Sp4, os = qs.map sp4 ∧ ∀ q ∈ qs, 0 ≤ q.1 ∧ 1 ≤ q.2.2.1 ∧ q.1 + q.2.2.1 ≤ c ∧ 0 ≤ q.2.1 ∧ 1 ≤ q.2.2.2 ∧ q.2.1 + q.2.2.2 ≤ r
  | [], _ => ⟨[], rfl, fun q h => by cases h⟩
  | o :: t, h => by
    obtain ⟨x, y, w, d, e, h1, h2, h3, h4, h5, h6⟩ := spot_int (h o (List.mem_cons_self ..))
    obtain ⟨qs, eq, hq⟩ := all_sp4 fun o' m => h o' (List.mem_cons_of_mem _ m)
    refine ⟨(x, y, w, d) :: qs, by rw [List.map_cons, ← eq, e]; rfl, fun q m => ?_⟩
    rcases List.mem_cons.mp m with rfl | m
    · exact ⟨h1, h2, h3, h4, h5, h6⟩
    · exact hq q m
theorem apart_sp4 (p q : Sp4) : apartO (sp4 p) (sp4 q) = apartI p.1 p.2.1 p.2.2.1 p.2.2.2 q.1 q.2.1 q.2.2.1 q.2.2.2 := rfl
/-- apart just where no cell is had by both -/
theorem apart_iff {p q : Sp4} (p1 : 1 ≤ p.2.2.1) (p2 : 1 ≤ p.2.2.2) (q1 : 1 ≤ q.2.2.1) (q2 : 1 ≤ q.2.2.2) : apartO (sp4 p) (sp4 q) = true ↔ ∀ a b, InS p a b → ¬ InS q a b := by
  rw [apart_sp4]
  unfold apartI InS
  rw [Bool.or_eq_true, Bool.or_eq_true, Bool.or_eq_true, decide_eq_true_eq, decide_eq_true_eq, decide_eq_true_eq, decide_eq_true_eq]
  constructor
  · intro h a b h1 h2; omega
  · intro h
    by_cases c1 : p.1 + p.2.2.1 ≤ q.1
    · exact .inl (.inl c1)
    by_cases c2 : q.1 + q.2.2.1 ≤ p.1
    · exact .inl (.inr c2)
    by_cases c3 : p.2.1 + p.2.2.2 ≤ q.2.1
    · exact .inr (.inl c3)
    by_cases c4 : q.2.1 + q.2.2.2 ≤ p.2.1
    · exact .inr (.inr c4)
    exact absurd ⟨by omega, by omega, by omega, by omega⟩ (h (max p.1 q.1) (max p.2.1 q.2.1) ⟨by omega, by omega, by omega, by omega⟩)
theorem tks_of {H : Hp} : ∀ {us : List V}, (∀ v ∈ us, ∃ t : Tk, TkAt H v t ∧ t.ok) → ∃ ts : List Tk, TksAt H us ts ∧ ∀ t ∈ ts, t.ok
  | [], _ => ⟨[], ⟨rfl, fun i v t e => by simp at e⟩, fun t h => by cases h⟩
  | v :: us, h => by
    obtain ⟨t, ht, ok⟩ := h v (List.mem_cons_self ..)
    obtain ⟨ts, hts, oks⟩ := tks_of fun w m => h w (List.mem_cons_of_mem _ m)
    refine ⟨t :: ts, ⟨by rw [List.length_cons, List.length_cons, hts.1], fun i w u e1 e2 => ?_⟩, fun u m => ?_⟩
    · cases i with
      | zero => cases e1; cases e2; exact ht
      | succ i => exact hts.2 i w u (by simpa using e1) (by simpa using e2)
    · rcases List.mem_cons.mp m with rfl | m
      · exact ok
      · exact oks u m
theorem InsC.but {C D : Addr} {H H' : Hp} {v : V} {zs : List V} (h : InsC C H v) (b : But D H H') (g : H D = some (.lst zs)) : InsC C H' v := by
  obtain ⟨a, dx, fs, rfl, e⟩ := h
  exact ⟨a, dx, fs, rfl, b _ _ (by rintro rfl; rw [g] at e; cases e) e⟩
theorem InsC.dr {C s : Addr} {H H' : Hp} {v : V} (h : InsC C H v) (hs : Src H s) (d : Dr s H H') : InsC C H' v := let ⟨_, g⟩ := hs; h.but d.b g
theorem letter_at {i : Int} (h0 : 0 ≤ i) (h1 : i < 8) : ∃ c, atI (Str.ofString "abcdefgh").cps.toList i = some c ∧ c ∈ lettersL := by
  have e : (Str.ofString "abcdefgh").cps.toList = [97, 98, 99, 100, 101, 102, 103, 104] := by decide +kernel
  have l : ∀ c ∈ ([97, 98, 99, 100, 101, 102, 103, 104] : List Nat), c ∈ lettersL := by decide +kernel
  rw [e]
  obtain ⟨k, rfl⟩ := Int.eq_ofNat_of_zero_le h0
  have hk : k < ([97, 98, 99, 100, 101, 102, 103, 104] : List Nat).length := by show k < 8; omega
  exact ⟨_, atI_nat (List.getElem?_eq_getElem hk), l _ (List.getElem_mem hk)⟩
theorem canLay_list : ∀ {ds : List PyData}, (∀ d ∈ ds, CelD d) → (PyData.list ds).canLay0 = true := by
  intro ds h
  show PyData.canLayAll0 ds = true
  induction ds with
  | nil => rfl
  | cons d t ih => simp only [PyData.canLayAll0, (h d (List.mem_cons_self ..)).1, ih fun e m => h e (List.mem_cons_of_mem _ m), Bool.and_self]
theorem It.there {H : Hp} {v : V} {d : PyData} (h : It H v d) : ∀ c, v = .ref c → H c ≠ none := fun c e => by
  subst e
  generalize hv : V.ref c = v at h
  cases h with
  | fl d f => cases d <;> first | (cases hv; done) | cases f
  | tup g f => cases hv; rw [g]; exact fun h => by cases h
  | lst g f => cases hv; rw [g]; exact fun h => by cases h
theorem shaped_tup {ds : List PyData} (h : SeqAt.shaped (.list ds) = true) : SeqAt.shaped (.tuple ds) = true := by
  simpa [SeqAt.shaped, PyData.canLay0, PyData.depth] using h
theorem eqv_tup_self {ds : List PyData} (h : (PyData.list ds).canLay0 = true) : PyData.eqv (.tuple ds) (.tuple ds) = true := SeqAt.eqv_refl _ (by simpa [PyData.canLay0] using h)
theorem lcTx {K : PySem.W.Frag} {g : TG} {tt : TT} {te : TE} {vs : List Nat} {σ : L2.St} {H1 : Hp} {D a : Addr} {Qd : Hp → Prop} {xs : List V} (f : Nat → V) (hD : H1 D = none) (hx : SqT K H1 a xs) (hn : xs.length ≤ 100000)
    (hs : ∀ (i : Nat) (x : V) (H : Hp) (Kt : V → Hp → Prop) (Kf : Hp → Prop), xs[i]? = some x → Same H1 H → (∀ H4, Same H H4 → Kt (f i) H4) → LcT g tt te vs σ x H Kt Kf)
    (hd : ∀ H, Same H1 H → H D = some (.lst ((List.range xs.length).map f)) → Qd H) : LcG (Itt K a) g tt te vs σ H1 D Qd :=
  lcTq (ysF f (fun _ => true) (List.range xs.length)) hD hx hn (fun i x H Kt Kf hxi s qq => by
    have hi := (List.getElem?_eq_some_iff.mp hxi).1
    exact hs i x H Kt Kf hxi s (fun H4 s4 => qq.yes _ _ s4 (by unfold ysF; rw [range_get hi]; rfl)))
    (fun H s h => hd H s (by have := ysF_all f (fun _ => true) (List.range xs.length); rw [List.length_range] at this; rw [h, this, List.filter_eq_self.mpr fun _ _ => rfl]))
end My

/-! ### a target with a star at its end: x, *r = a tuple -/
namespace My
open PySem PySem.Spec PyProof.Rows L2
section
variable {prog : Program} {w : World} {A : Around} {E : Value → Shared → Prop} {s : Shared}
theorem walks_off {I : Addr} {fp wr : List Addr} {n : Nat} {P : Nat → Value → Prop} {St : Nat → Heap → Prop} (W : Walks prog w A I fp wr (n + 1) P St) : Walks prog w A I fp wr n (fun i => P (i + 1)) (fun i => St (i + 1)) where
  sub := W.sub
  frame := fun i => W.frame (i + 1)
  item := fun i s Q E hi st hQ => W.item (i + 1) s Q E (Nat.succ_lt_succ hi) st hQ
  done := fun s Q E st hQ => W.done s Q E st hQ
  self := fun i => W.self (i + 1)
theorem unpack_hd_rest {t : Addr} {x : Value} {its : List Value} {Q : List Value → Shared → Prop} (hh : A.handled = none) (hh1 : A.in1.handled = none) (ht : IsTup s.heap t (x :: its).toArray) (hz : its.length ≤ sizeLine)
    (hQ : ∀ (h' : Heap) (tk : Nat), (∀ b o, s.heap.get? b = some o → h'.get? b = some o) → Q [x, .ref h'.objs.size] { s with heap := h'.push { cls := .type "list", data := .seq its.toArray }, toks := tk }) :
    wpAny (model prog w) A (unpackItems (.ref t) 2 (some 1)) Q E s := by
  have hlt : t ≠ s.heap.objs.size := by obtain ⟨o, ho, _⟩ := ht; exact Nat.ne_of_lt (Heap.lt_size ho)
  unfold unpackItems
  refine wpAny_bind ?_
  unfold notIterableAtAll
  refine wpAny_bind (wpAny_specialOf ht.typeIs slot_tuple_iter.lookup ?_)
  refine wpAny_pure ?_
  simp only [Bool.false_eq_true, if_false]
  refine wpAny_bind (wpAny_holding (iter_tuple ht ?_))
  refine wpAny_bind (wpAny_holding (draw_tuple hlt 1 0 _ _ ⟨_, Heap.get?_push_size _ rfl, rfl, rfl⟩ (ht.push _) (by simp) fun h₁ hit₁ hs₁ => ?_))
  have hall : List.take 1 (List.drop 0 (x :: its).toArray.toList) = [x] := rfl
  rw [hall]
  rw [if_neg (by simp)]
  have ht₁ : IsTup h₁ t (x :: its).toArray := (ht.push _).extBut hs₁.extBut hlt
  have W := walks_off (n := its.length) (by have := Walks.tuple (prog := prog) (w := w) (A := A.in1) hh1 s.heap.objs.size t hlt (x :: its).toArray; simpa using this)
  refine wpAny_bind (wpAny_holding (wpAny_collect_iter (.inr (.inr (.inr rfl))) W.toS (fun i s st => st.1.typeIs) ⟨hit₁, ht₁⟩ (fun b hb => ?_) (by simp) (fun s' acc hm hacc => ?_) hz))
  · have hI := hit₁
    obtain ⟨o, ho, _⟩ := hI
    obtain ⟨o2, ho2, _⟩ := ht₁
    rcases List.mem_cons.mp hb with rfl | hb
    · exact Heap.lt_size ho
    · rw [List.mem_singleton.mp hb]; exact Heap.lt_size ho2
  have ea : acc.toList = its := by
    obtain ⟨hl, hi⟩ := hacc
    apply List.ext_getElem?
    intro j
    by_cases hj : j < acc.toList.length
    · rw [List.getElem?_eq_getElem hj]
      have := hi j acc[j] (by rw [Array.getElem?_eq_getElem])
      simpa using this.symm
    · rw [List.getElem?_eq_none (by omega), List.getElem?_eq_none (by rw [Array.length_toList] at hj; omega)]
  rw [ea]
  simp only [Nat.sub_self, Nat.not_lt_zero, if_false, Nat.sub_zero, List.take_length, List.drop_length]
  refine wpAny_bind (m := newList its) (wpAny_newObj_type ?_ (by exact hz))
  refine wpAny_pure ?_
  obtain ⟨hp', g', d', tk', os'⟩ := s'
  have eg : g' = s.gens := hm.gens
  have ed : d' = s.drawn := hm.drawn
  have eo : os' = s.os := hm.os
  subst eg ed eo
  exact hQ hp' tk' fun b o e => hm.heap b o (fun hb => Nat.ne_of_lt (Heap.lt_size e) (List.mem_singleton.mp hb)) (hs₁.extBut b o (Nat.ne_of_lt (Heap.lt_size e)) (Heap.get?_push_of_some _ e))
end
theorem pgs_starred {X : Cx} {e : Expr} {p : Pos} {es : List Expr} {t : TG} {u : TGs} (h1 : PG X e t) (h2 : PGs X es u)
    (hs : (assignEach (.Starred e p :: es) X.env).map (·.2) = assign e X.env :: (assignEach es X.env).map (·.2) := by rfl) : PGs X (.Starred e p :: es) (gCons t u) := by
  refine ⟨fun pins s σ H vs us Q I r h => ?_⟩
  obtain ⟨v, vr, e1, h⟩ := h
  subst e1
  cases r with
  | cons r rr =>
    rw [hs]
    refine assignInOrder_cons (thn (h1.run pins s σ H _ _ _ I r h) fun _ s1 ⟨σ1, H1, I1, q1⟩ => ?_)
    exact h2.run pins s1 σ1 H1 _ _ Q I1 rr q1
/-- x, *r = a tuple: the first one, a new list of the others -/
def gHdRest (K : PySem.W.Frag) (t : TGs) : TG := fun v σ H Q => ∃ a x xs, v = .ref a ∧ SqT K H a (x :: xs) ∧ New H (.lst xs) fun r H' => t [x, r] σ H' Q
theorem pg_hdRest {X : Cx} {es : List Expr} {k : Nat} {pos : Pos} {t : TGs} (hc : X.calm = true) (h : PGs X es t)
    (hn : (assignEach es X.env).length = 2 := by rfl) (hst : (assignEach es X.env).findIdx? (·.1) = some 1 := by rfl) : PG X (.Tuple es k pos) (gHdRest X.K t) := by
  refine ⟨fun pins s σ H v u Q I r hw => ?_⟩
  obtain ⟨a, x, xs, e1, hq, hw⟩ := hw
  subst e1
  cases r
  obtain ⟨its, rv, ht, hz⟩ := I.tuple hq
  cases rv with
  | @cons _ u1 _ us r1 r2 =>
    rw [assign_Tuple]
    refine wpAny_bind (wpAny_standAt ?_)
    unfold unpack
    rw [hn, hst]
    have hz' : us.length ≤ sizeLine := by rw [← r2.length]; exact Nat.le_trans (Nat.le_succ _) hz
    refine wpAny_bind (wpAny_holding (unpack_hd_rest (I.ok.hd hc) (I.ok.hd hc) ht hz' fun h' tk hk => ?_))
    have I1 : Inv X pins σ H { s with heap := h', toks := tk } := I.kept (t' := tk) hk
    have I2 := I1.laid (t' := tk) (a := h'.objs.size) (o := .lst xs) (fun b ob q => Heap.get?_push_of_some { cls := .type "list", data := .seq us.toArray } q) (Nat.le_refl _) ⟨Nat.le_trans (Nat.le_succ _) hz, us, 0, r2, Heap.get?_push_size _ rfl⟩
    exact h.run pins _ σ _ [x, .ref h'.objs.size] [u1, .ref h'.objs.size] Q I2 (.cons r1 (.cons rfl .nil)) (hw.go _ (I1.hok.fresh (Nat.le_refl _)))
/-! ### a star at any place -/
section
variable {prog : Program} {w : World} {A : Around} {E : Value → Shared → Prop} {s : Shared}
theorem walks_offK {I : Addr} {fp wr : List Addr} {n : Nat} {P : Nat → Value → Prop} {St : Nat → Heap → Prop} (k : Nat) (W : Walks prog w A I fp wr (k + n) P St) : Walks prog w A I fp wr n (fun i => P (k + i)) (fun i => St (k + i)) where
  sub := W.sub
  frame := fun i => W.frame (k + i)
  item := fun i s Q E hi st hQ => W.item (k + i) s Q E (Nat.add_lt_add_left hi k) st hQ
  done := fun s Q E st hQ => W.done s Q E st hQ
  self := fun i => W.self (k + i)
theorem unpack_star {t : Addr} {ps ms qs : List Value} {Q : List Value → Shared → Prop} (hh : A.handled = none) (hh1 : A.in1.handled = none) (ht : IsTup s.heap t (ps ++ (ms ++ qs)).toArray) (hz : (ms ++ qs).length ≤ sizeLine)
    (hQ : ∀ (h' : Heap) (tk : Nat), (∀ b o, s.heap.get? b = some o → h'.get? b = some o) → Q (ps ++ [.ref h'.objs.size] ++ qs) { s with heap := h'.push { cls := .type "list", data := .seq ms.toArray }, toks := tk }) :
    wpAny (model prog w) A (unpackItems (.ref t) (ps.length + 1 + qs.length) (some ps.length)) Q E s := by
  have hlt : t ≠ s.heap.objs.size := by obtain ⟨o, ho, _⟩ := ht; exact Nat.ne_of_lt (Heap.lt_size ho)
  unfold unpackItems
  refine wpAny_bind ?_
  unfold notIterableAtAll
  refine wpAny_bind (wpAny_specialOf ht.typeIs slot_tuple_iter.lookup ?_)
  refine wpAny_pure ?_
  simp only [Bool.false_eq_true, if_false]
  refine wpAny_bind (wpAny_holding (iter_tuple ht ?_))
  refine wpAny_bind (wpAny_holding (draw_tuple hlt ps.length 0 _ _ ⟨_, Heap.get?_push_size _ rfl, rfl, rfl⟩ (ht.push _) (by simp) fun h₁ hit₁ hs₁ => ?_))
  have hall : List.take ps.length (List.drop 0 (ps ++ (ms ++ qs)).toArray.toList) = ps := by
    rw [List.drop_zero]
    exact List.take_left
  rw [hall]
  rw [if_neg (by simp)]
  have ht₁ : IsTup h₁ t (ps ++ (ms ++ qs)).toArray := (ht.push _).extBut hs₁.extBut hlt
  have W0 : Walks prog w A.in1 s.heap.objs.size [s.heap.objs.size, t] [s.heap.objs.size] (ps.length + (ms ++ qs).length) (fun i v => (ps ++ (ms ++ qs)).toArray[i]? = some v) (fun i h => h.IsTupleIter s.heap.objs.size t i ∧ h.IsTuple t (ps ++ (ms ++ qs)).toArray) := by
    rw [show ps.length + (ms ++ qs).length = (ps ++ (ms ++ qs)).toArray.size from by rw [List.size_toArray, List.length_append (as := ps)]]
    exact Walks.tuple hh1 s.heap.objs.size t hlt (ps ++ (ms ++ qs)).toArray
  have W := walks_offK ps.length W0
  refine wpAny_bind (wpAny_holding (wpAny_collect_iter (.inr (.inr (.inr rfl))) W.toS (fun i s st => st.1.typeIs) ⟨by rw [Nat.add_zero, ← Nat.zero_add ps.length]; exact hit₁, ht₁⟩ (fun b hb => ?_) (by simp) (fun s' acc hm hacc => ?_) hz))
  · have hI := hit₁
    obtain ⟨o, ho, _⟩ := hI
    obtain ⟨o2, ho2, _⟩ := ht₁
    rcases List.mem_cons.mp hb with rfl | hb
    · exact Heap.lt_size ho
    · rw [List.mem_singleton.mp hb]; exact Heap.lt_size ho2
  have ea : acc.toList = ms ++ qs := by
    obtain ⟨hl, hi⟩ := hacc
    apply List.ext_getElem?
    intro j
    by_cases hj : j < acc.toList.length
    · rw [List.getElem?_eq_getElem hj]
      have := hi j acc[j] (by rw [Array.getElem?_eq_getElem])
      have this : (ps ++ (ms ++ qs)).toArray[ps.length + j]? = some acc[j] := this
      rw [List.getElem?_toArray, List.getElem?_append_right (by omega), Nat.add_sub_cancel_left] at this
      exact this.symm
    · rw [List.getElem?_eq_none (by omega), List.getElem?_eq_none (by rw [Array.length_toList] at hj; omega)]
  rw [ea]
  have e1 : ps.length + 1 + qs.length - 1 - ps.length = qs.length := by omega
  rw [e1, if_neg (by rw [List.length_append]; omega)]
  have e2 : (ms ++ qs).length - qs.length = ms.length := by rw [List.length_append]; omega
  rw [e2, List.take_left, List.drop_left]
  refine wpAny_bind (m := newList ms) (wpAny_newObj_type ?_ (by
    show ms.toArray.size ≤ _
    rw [List.size_toArray]
    rw [List.length_append] at hz
    exact Nat.le_trans (Nat.le_add_right _ _) hz))
  refine wpAny_pure ?_
  obtain ⟨hp', g', d', tk', os'⟩ := s'
  have eg : g' = s.gens := hm.gens
  have ed : d' = s.drawn := hm.drawn
  have eo : os' = s.os := hm.os
  subst eg ed eo
  exact hQ hp' tk' fun b o e => hm.heap b o (fun hb => Nat.ne_of_lt (Heap.lt_size e) (List.mem_singleton.mp hb)) (hs₁.extBut b o (Nat.ne_of_lt (Heap.lt_size e)) (Heap.get?_push_of_some _ e))
end
theorem vals_app {ps qs : List V} {us : List Value} (h : Vals (ps ++ qs) us) : ∃ u1 u2, us = u1 ++ u2 ∧ Vals ps u1 ∧ Vals qs u2 := by
  refine ⟨us.take ps.length, us.drop ps.length, (List.take_append_drop _ _).symm, ?_, ?_⟩
  · have := h.take ps.length
    rwa [List.take_left] at this
  · have := h.drop ps.length
    rwa [List.drop_left] at this
/-- .., *r, .. = a tuple: those ahead, a new list of those amid, those behind -/
def gStar (K : PySem.W.Frag) (i j : Nat) (t : TGs) : TG := fun v σ H Q => ∃ a ps ms qs, v = .ref a ∧ ps.length = i ∧ qs.length = j ∧ SqT K H a (ps ++ (ms ++ qs)) ∧ New H (.lst ms) fun r H' => t (ps ++ [r] ++ qs) σ H' Q
theorem pg_star {X : Cx} {es : List Expr} {k : Nat} {pos : Pos} {t : TGs} (i j : Nat) (hc : X.calm = true) (h : PGs X es t)
    (hn : (assignEach es X.env).length = i + 1 + j := by rfl) (hst : (assignEach es X.env).findIdx? (·.1) = some i := by rfl) : PG X (.Tuple es k pos) (gStar X.K i j t) := by
  refine ⟨fun pins s σ H v u Q I r hw => ?_⟩
  obtain ⟨a, ps, ms, qs, e1, lp, lq, hq, hw⟩ := hw
  subst e1
  cases r
  obtain ⟨its, rv, ht, hz⟩ := I.tuple hq
  obtain ⟨us, r1, e2, rp, rv⟩ := vals_app rv
  obtain ⟨um, uq, e3, rm, rq⟩ := vals_app rv
  subst e2 e3
  rw [assign_Tuple]
  refine wpAny_bind (wpAny_standAt ?_)
  unfold unpack
  rw [hn, hst]
  have hz' : (um ++ uq).length ≤ sizeLine := by
    have := rm.length
    have := rq.length
    have := rp.length
    rw [List.length_append, List.length_append] at hz
    rw [List.length_append]
    omega
  have hl1 : us.length = i := by rw [← rp.length]; exact lp
  have hl2 : uq.length = j := by rw [← rq.length]; exact lq
  rw [← hl1, ← hl2]
  refine wpAny_bind (wpAny_holding (unpack_star (I.ok.hd hc) (I.ok.hd hc) ht hz' fun h' tk hk => ?_))
  have I1 : Inv X pins σ H { s with heap := h', toks := tk } := I.kept (t' := tk) hk
  have I2 := I1.laid (t' := tk) (a := h'.objs.size) (o := .lst ms) (fun b ob q => Heap.get?_push_of_some { cls := .type "list", data := .seq um.toArray } q) (Nat.le_refl _) ⟨by rw [rm.length]; rw [List.length_append] at hz'; omega, um, 0, rm, Heap.get?_push_size _ rfl⟩
  exact h.run pins _ σ _ (ps ++ [.ref h'.objs.size] ++ qs) (us ++ [.ref h'.objs.size] ++ uq) Q I2 ((rp.append (Paired.cons (show RelV (V.ref h'.objs.size) (Value.ref h'.objs.size) from rfl) .nil)).append rq) (hw.go _ (I1.hok.fresh (Nat.le_refl _)))
end My

/-! ### trees looked through -/
namespace My
open PySem PySem.Spec PyProof.Rows L2
def spO (q : Int × Int × Int × Int) : Option (List V) := some [.int q.1, .int q.2.1, .int q.2.2.1, .int q.2.2.2]
theorem sps_ths {H : Hp} {vs : List V} {qs : List (Int × Int × Int × Int)} (h : SpsAt H vs qs) : ThsAt H vs (qs.map spO) := ⟨by rw [List.length_map]; exact h.1, fun i v o e1 e2 => by
  rw [List.getElem?_map] at e2
  cases e : qs[i]? with
  | none => rw [e] at e2; cases e2
  | some q =>
    rw [e] at e2
    cases e2
    obtain ⟨p, rfl, g⟩ := h.2 i v q e1 e
    exact .tup p _ g fun x mx => by
      simp only [List.mem_cons, List.not_mem_nil, or_false] at mx
      rcases mx with rfl | rfl | rfl | rfl <;> exact ⟨_, .int _⟩⟩
/-- a pair of a box and its holder's name -/
def PrAt (H : Hp) (v : V) (e : Addr × List Nat × V) : Prop := ∃ p, v = .ref p ∧ H p = some (.tup [.ref e.1, e.2.2])
def PrsAt (H : Hp) (vs : List V) (es : List (Addr × List Nat × V)) : Prop := vs.length = es.length ∧ ∀ (i : Nat) (v : V) (e : Addr × List Nat × V), vs[i]? = some v → es[i]? = some e → PrAt H v e
theorem PrAt.ks {H H' : Hp} {v : V} {e : Addr × List Nat × V} (h : PrAt H v e) (p : KeepS H H') : PrAt H' v e := let ⟨q, a, g⟩ := h; ⟨q, a, p.tup g⟩
theorem PrsAt.ks {H H' : Hp} {vs : List V} {es : List (Addr × List Nat × V)} (h : PrsAt H vs es) (p : KeepS H H') : PrsAt H' vs es := ⟨h.1, fun i v e a b => (h.2 i v e a b).ks p⟩
theorem PrsAt.nil {H : Hp} : PrsAt H [] [] := ⟨rfl, fun i v e a => by cases a⟩
theorem PrsAt.app {H : Hp} {vs ws : List V} {es fs : List (Addr × List Nat × V)} (h : PrsAt H vs es) (k : PrsAt H ws fs) : PrsAt H (vs ++ ws) (es ++ fs) := ⟨by rw [List.length_append, List.length_append, h.1, k.1], fun i v e a b => by
  by_cases hi : i < vs.length
  · rw [List.getElem?_append_left hi] at a
    rw [List.getElem?_append_left (by rw [← h.1]; exact hi)] at b
    exact h.2 i v e a b
  · rw [List.getElem?_append_right (by omega)] at a
    rw [List.getElem?_append_right (by rw [← h.1]; omega), ← h.1] at b
    exact k.2 _ v e a b⟩
theorem PrsAt.one {H : Hp} {p : Addr} {e : Addr × List Nat × V} (g : H p = some (.tup [.ref e.1, e.2.2])) : PrsAt H [.ref p] [e] := ⟨rfl, fun i v e' a b => by
  match i, a, b with
  | 0, a, b => cases a; cases b; exact ⟨p, rfl, g⟩
  | n + 1, a, _ => cases a⟩
end My
namespace My
open PySem PySem.Spec PyProof.Rows L2
/-! all boxes of a tree -/
mutual
def At.all : At → List At
  | .mk x n s o ks => .mk x n s o ks :: allL ks
def allL : List At → List At
  | [] => []
  | k :: ks => k.all ++ allL ks
end
theorem At.all_eq (t : At) : t.all = t :: allL t.kids := by cases t; rw [At.all]; rfl
theorem mem_preL {e : Addr × List Nat × V} {h : V} : ∀ {ks : List At}, e ∈ preL ks h → ∃ k ∈ ks, e ∈ k.pre h
  | [], m => by rw [preL] at m; cases m
  | k :: ks, m => by
    rw [preL] at m
    rcases List.mem_append.mp m with m | m
    · exact ⟨k, List.mem_cons_self, m⟩
    · obtain ⟨j, mj, q⟩ := mem_preL m
      exact ⟨j, List.mem_cons_of_mem _ mj, q⟩
theorem mem_allL {b k : At} (h : b ∈ k.all) : ∀ {ks : List At}, k ∈ ks → b ∈ allL ks
  | j :: ks, m => by
    rw [allL]
    rcases List.mem_cons.mp m with rfl | m
    · exact List.mem_append_left _ h
    · exact List.mem_append_right _ (mem_allL h m)
theorem pre_box {bc : Kd → Addr} {S : Addr} {K : PySem.W.Frag} {H : Hp} {t : At} (hb : BoxAt bc S K H t) : ∀ (h : V) (e : Addr × List Nat × V), e ∈ t.pre h → ∃ b : At, BoxAt bc S K H b ∧ b.x = e.1 ∧ b.nm = e.2.1 ∧ b ∈ t.all := by
  have key : ∀ t : At, BoxAt bc S K H t → (∀ k ∈ t.kids, ∀ (h : V) (e : Addr × List Nat × V), e ∈ k.pre h → ∃ b : At, BoxAt bc S K H b ∧ b.x = e.1 ∧ b.nm = e.2.1 ∧ b ∈ k.all) → ∀ (h : V) (e : Addr × List Nat × V), e ∈ t.pre h → ∃ b : At, BoxAt bc S K H b ∧ b.x = e.1 ∧ b.nm = e.2.1 ∧ b ∈ t.all := fun t hb ih h e m => by
    rw [t.pre_eq] at m
    rcases List.mem_cons.mp m with rfl | m
    · exact ⟨t, hb, rfl, rfl, by rw [t.all_eq]; exact List.mem_cons_self⟩
    · obtain ⟨k, mk, q⟩ := mem_preL m
      obtain ⟨b, h1, h2, h3, h4⟩ := ih k mk _ e q
      exact ⟨b, h1, h2, h3, by rw [t.all_eq]; exact List.mem_cons_of_mem _ (mem_allL h4 mk)⟩
  induction hb with
  | words hx hy ok hn ht => exact key _ (.words hx hy ok hn ht) fun k m => by cases m
  | picture hx hy ok hn ha hd => exact key _ (.picture hx hy ok hn ha hd) fun k m => by cases m
  | row hx hy ok hn g0 l0 hb lk hk ih => exact key _ (.row hx hy ok hn g0 l0 hb lk hk) ih
  | pile hx hy ok hn g0 hb lk hk ih => exact key _ (.pile hx hy ok hn g0 hb lk hk) ih
  | grid hx hy ok hn g0 l0 hb lk hk hc tc oc nc hr tr or nr hs ts lsp lcs lrs ih => exact key _ (.grid hx hy ok hn g0 l0 hb lk hk hc tc oc nc hr tr or nr hs ts lsp lcs lrs) ih
def keyS (l : List Nat) : Key := .inr (sO l)
theorem keyS_inj {a b : List Nat} (h : keyS a = keyS b) : a = b := by
  have := Sum.inr.inj h
  have := congrArg (fun z : Str => z.cps.toList) this
  simpa [sO] using this
def bxs (es : List (Addr × List Nat × V)) : List (Key × V) := es.map fun e => (keyS e.2.1, .ref e.1)
def hds (es : List (Addr × List Nat × V)) : List (Key × V) := es.map fun e => (keyS e.2.1, e.2.2)
def nms (es : List (Addr × List Nat × V)) : List V := es.map fun e => .str (sO e.2.1)
theorem val_none {f : Addr × List Nat × V → V} {l : List Nat} : ∀ {es : List (Addr × List Nat × V)}, l ∉ es.map (·.2.1) → valV (es.map fun e => (keyS e.2.1, f e)) (keyS l) = none
  | [], _ => rfl
  | e :: es, h => by
    rw [List.map_cons] at h
    have h1 : e.2.1 ≠ l := fun z => h (z ▸ List.mem_cons_self)
    have h2 : l ∉ es.map (·.2.1) := fun z => h (List.mem_cons_of_mem _ z)
    have ih := val_none (f := f) h2
    have hk : keyS e.2.1 ≠ keyS l := fun z => h1 (keyS_inj z)
    rw [List.map_cons]
    unfold valV at ih ⊢
    rw [List.find?_cons]
    simp only [decide_eq_false hk]
    exact ih
theorem val_at {f : Addr × List Nat × V → V} : ∀ {es : List (Addr × List Nat × V)}, (es.map (·.2.1)).Nodup → ∀ {e : Addr × List Nat × V}, e ∈ es → valV (es.map fun e => (keyS e.2.1, f e)) (keyS e.2.1) = some (f e)
  | [], _, e, m => by cases m
  | a :: es, nd, e, m => by
    rw [List.map_cons, List.nodup_cons] at nd
    rcases List.mem_cons.mp m with rfl | m
    · rw [List.map_cons]
      unfold valV
      rw [List.find?_cons]
      simp
    · have ih := val_at (f := f) nd.2 m
      have hk : keyS a.2.1 ≠ keyS e.2.1 := fun z => nd.1 (by rw [keyS_inj z]; exact List.mem_map_of_mem m)
      rw [List.map_cons]
      unfold valV at ih ⊢
      rw [List.find?_cons]
      simp only [decide_eq_false hk]
      exact ih
/-- a tree looked through -/
def NestAt (C : Addr) (H : Hp) (x : Addr) (t : At) : Prop := ∃ (dx o d1 d2 : Addr), H x = some (.ins C dx [("order", .ref o), ("box_by", .ref d1), ("holder_by", .ref d2)]) ∧ H o = some (.lst (nms (t.pre .non))) ∧ H d1 = some (.dK (bxs (t.pre .non))) ∧ H d2 = some (.dK (hds (t.pre .non)))
section
variable {K : PySem.W.Frag} {a : Addr} {xs : List V} {g : TG} {tt : TT} {tk tv : TE} {vs : List Nat} {σ : L2.St} {H1 : Hp} {D : Addr} {Qd : Hp → Prop}
/-- a dict comprehension over a list that stays -/
theorem dcL (Pv : Nat → Hp → Prop) (h0 : Pv 0 (upd H1 D (.dK []))) (hl : ∀ i H, i ≤ xs.length → Pv i H → SqL K H a xs)
    (hs : ∀ i x H, xs[i]? = some x → Pv i H → g x (wipe σ vs) H fun σ2 H2 => wipe σ2 vs = wipe σ vs ∧ tt σ2 H2 fun b H3 =>
      if b = true then tk σ2 H3 fun y H4 => tv σ2 H4 fun z H5 => ∃ kvs k, y = kV k ∧ H5 D = some (.dK kvs) ∧ kvs.length < sizeLine ∧ Pv (i + 1) (upd H5 D (.dK (putK kvs k z))) else Pv (i + 1) H3) (hd : ∀ H, Pv xs.length H → Qd H) :
    ∃ W : Nat → Nat → Hp → Prop, (∃ m, W 0 m (upd H1 D (.dK []))) ∧ ∀ i m H, W i m H →
      ((Itl K a).stop i H ∧ Qd H) ∨ ((Itl K a).go i H ∧ ∃ Nx : Hp → Prop, (∀ H', Nx H' → ∃ m', m' < m ∧ W (i + 1) m' H') ∧ ∀ x H', (Itl K a).yld i H x H' → g x (wipe σ vs) H' fun σ2 H2 => wipe σ2 vs = wipe σ vs ∧ tt σ2 H2 fun b H3 =>
        if b = true then tk σ2 H3 fun y H4 => tv σ2 H4 fun z H5 => ∃ kvs k, y = kV k ∧ H5 D = some (.dK kvs) ∧ kvs.length < sizeLine ∧ Nx (upd H5 D (.dK (putK kvs k z))) else Nx H3) := by
  refine ⟨fun i m H => m = xs.length - i ∧ i ≤ xs.length ∧ Pv i H, ⟨xs.length, by simp, Nat.zero_le _, h0⟩, ?_⟩
  rintro i m H ⟨rfl, hi, p⟩
  have q := hl i H hi p
  by_cases hlt : i < xs.length
  · refine .inr ⟨⟨xs, xs[i], q, by simp [hlt]⟩, Pv (i + 1), fun H' p' => ⟨xs.length - (i + 1), by omega, rfl, hlt, p'⟩, fun x H' y => ?_⟩
    obtain ⟨e, y⟩ := y
    subst e
    exact hs i x _ (y xs q) p
  · have e : i = xs.length := by omega
    subst e
    exact .inl ⟨⟨xs, q, Nat.le_refl _⟩, hd H p⟩
end
/-- a told size that hangs on no strange name -/
def TieOk (names : List (List Nat)) (H : Hp) (v : V) : Prop := ∀ (a : Addr) (l : List Nat) (x y z : V), v = .ref a → H a = some (.tup [x, .str (sO l), y, z]) → l ∈ names
theorem range_nms (es : List (Addr × List Nat × V)) {n : Nat} (h : n = es.length) : ((List.range n).map fun i => (nms es).getD i .non) = nms es := by
  subst h
  refine List.ext_getElem (by unfold nms; simp) fun i h1 h2 => ?_
  have hi : i < es.length := by unfold nms at h2; simpa using h2
  simp [List.getD_eq_getElem?_getD, List.getElem?_eq_getElem h2]
theorem nms_at {es : List (Addr × List Nat × V)} {i : Nat} {e : Addr × List Nat × V} (h : es[i]? = some e) : (nms es).getD i .non = .str (sO e.2.1) := by
  unfold nms
  rw [List.getD_eq_getElem?_getD, List.getElem?_map, h]; rfl
theorem take_new {es : List (Addr × List Nat × V)} (nd : (es.map (·.2.1)).Nodup) {i : Nat} {e : Addr × List Nat × V} (h : es[i]? = some e) : e.2.1 ∉ (es.take i).map (·.2.1) := by
  intro m
  have e1 : (es.map (·.2.1))[i]? = some e.2.1 := by rw [List.getElem?_map, h]; rfl
  rw [List.map_take] at m
  obtain ⟨j, hj⟩ := List.getElem?_of_mem m
  rw [List.getElem?_take] at hj
  split at hj
  · next q =>
    have hl := (List.getElem?_eq_some_iff.mp e1).1
    have e2 := (List.getElem?_inj hl nd).mp (e1.trans hj.symm)
    omega
  · cases hj
theorem put_take {f : Addr × List Nat × V → V} {es : List (Addr × List Nat × V)} (nd : (es.map (·.2.1)).Nodup) {i : Nat} {e : Addr × List Nat × V} (h : es[i]? = some e) :
    putK ((es.take i).map fun e => (keyS e.2.1, f e)) (keyS e.2.1) (f e) = (es.take (i + 1)).map fun e => (keyS e.2.1, f e) := by
  rw [putK_new _ (val_none (take_new nd h)), List.take_add_one, h, List.map_append]; rfl
/-- a tree that is let by: unlike names, ties to its names, no part in the first box -/
structure TreeOk (H : Hp) (t : At) : Prop where
  nd : ((t.pre .non).map (·.2.1)).Nodup
  ties : ∀ b ∈ t.all, TieOk ((t.pre .non).map (·.2.1)) H (b.st.getD 0 .non) ∧ TieOk ((t.pre .non).map (·.2.1)) H (b.st.getD 1 .non)
  root : ∀ (i : Nat) (a : Addr) (xs : List V), i < 2 → t.st.getD i .non = .ref a → H a = some (.tup xs) → xs.length ≠ 2
end My
namespace My
open PySem PySem.Spec PyProof.Rows L2
/-- a told size: none, cells, a part where that may be, a tie to one of the names -/
def SzIn (names : List (List Nat)) (H : Hp) (part : Bool) (v : V) : Prop := v = .non ∨ (∃ n : Nat, v = .int (n : Int)) ∨ (part = true ∧ ∃ (a : Addr) (n : Nat), v = .ref a ∧ H a = some (.tup [sX "part", .int (n : Int)])) ∨ ∃ (a : Addr) (l : List Nat) (sd : String) (m : Int), v = .ref a ∧ H a = some (.tup [sX "as", .str (sO l), sX sd, .int m]) ∧ l ∈ names
section
variable {H H' : Hp} {v : V} {names : List (List Nat)} {p : Bool} {t : At}
theorem SzIn.ks (h : SzIn names H p v) (k : KeepS H H') : SzIn names H' p v := by
  rcases h with h | h | ⟨e, a, n, e1, g⟩ | ⟨a, l, sd, m, e1, g, q⟩
  · exact .inl h
  · exact .inr (.inl h)
  · exact .inr (.inr (.inl ⟨e, a, n, e1, k.tup g⟩))
  · exact .inr (.inr (.inr ⟨a, l, sd, m, e1, k.tup g, q⟩))
theorem sO_inj {a b : List Nat} (h : sO a = sO b) : a = b := by
  have := congrArg (fun z : Str => z.cps.toList) h
  simpa [sO] using this
theorem SzIn.tie (h : SzIn names H p v) : TieOk names H v := by
  intro a l x y z e g
  rcases h with h | ⟨n, h⟩ | ⟨_, a', n, e1, g'⟩ | ⟨a', l', sd, m, e1, g', q⟩
  · rw [h] at e; cases e
  · rw [h] at e; cases e
  · rw [e1] at e; cases e; rw [g'] at g; cases g
  · rw [e1] at e
    cases e
    rw [g'] at g
    have g := HO.tup.inj (Option.some.inj g)
    simp only [List.cons.injEq, V.str.injEq] at g
    rw [← sO_inj g.2.1]
    exact q
theorem SzIn.nopart (h : SzIn names H false v) {a : Addr} {xs : List V} (e : v = .ref a) (g : H a = some (.tup xs)) : xs.length ≠ 2 := by
  rcases h with h | ⟨n, h⟩ | ⟨q, _⟩ | ⟨a', l', sd, m, e1, g', q⟩
  · rw [h] at e; cases e
  · rw [h] at e; cases e
  · cases q
  · rw [e1] at e
    cases e
    rw [g'] at g
    cases g
    show 4 ≠ 2
    decide
/-- a tree that is let by, told so that it stays so -/
structure TreeIn (H : Hp) (t : At) : Prop where
  nd : ((t.pre .non).map (·.2.1)).Nodup
  ties : ∀ b ∈ t.all, SzIn ((t.pre .non).map (·.2.1)) H true (b.st.getD 0 .non) ∧ SzIn ((t.pre .non).map (·.2.1)) H true (b.st.getD 1 .non)
  root : SzIn ((t.pre .non).map (·.2.1)) H false (t.st.getD 0 .non) ∧ SzIn ((t.pre .non).map (·.2.1)) H false (t.st.getD 1 .non)
theorem TreeIn.ks (h : TreeIn H t) (k : KeepS H H') : TreeIn H' t := ⟨h.nd, fun b m => ⟨(h.ties b m).1.ks k, (h.ties b m).2.ks k⟩, h.root.1.ks k, h.root.2.ks k⟩
theorem TreeIn.ok (h : TreeIn H t) : TreeOk H t := ⟨h.nd, fun b m => ⟨(h.ties b m).1.tie, (h.ties b m).2.tie⟩, fun i a xs hi e g => by
  rcases (show i = 0 ∨ i = 1 by omega) with rfl | rfl
  · exact h.root.1.nopart e g
  · exact h.root.2.nopart e g⟩
end
end My
namespace My
open PySem PySem.Spec PyProof.Rows L2
theorem NestAt.same {C : Addr} {H H' : Hp} {x : Addr} {t : At} (h : NestAt C H x t) (s : Same H H') : NestAt C H' x t := let ⟨dx, o, d1, d2, a, b, c, d⟩ := h; ⟨dx, o, d1, d2, s _ _ a, s _ _ b, s _ _ c, s _ _ d⟩
end My

/-! ### a plain thing != [] -/
namespace PySem.SeqAt
open MeetsSeq MeetsSeq2 MeetsSeq3
theorem my_list_ne_declines_dict (l b : Addr) (items : Array Value) (n : Nat) (dd : Option Addr) (sl : Array (Option Value)) (o : Obj) (ho : o.cls = .type "dict") :
    Meets (Builtin.«list.__ne__» ⟨[.ref l, .ref b], []⟩) (fun _ R s => s.heap.get? l = some { cls := .type "list", dict := dd, data := .seq items n, slots := sl } ∧ s.heap.get? b = some o ∧ R (.ok (.ret .notImplemented)) s) :=
  .of_wp fun prog w A R s h => by obtain ⟨hp, g, d, tk, os⟩ := s; obtain ⟨hl, hb, h⟩ := h; obtain ⟨cls, dd2, data2, sl2⟩ := o; subst ho; have f1 := F.sub_dict_list; wp_walk using _root_.PySem.AutoSeq1.wpAny_loadPart' hl, _root_.PySem.AutoSeq1.wpAny_loadPart' hb; exact ⟨_, rfl, h⟩
theorem my_dict_ne_declines {M : Unit} {prog : Program} {w : World} {A : Around} {E Q : Value → Shared → Prop} {s : Shared} {a b : Addr} (da : s.TypeIs (.ref a) "dict") (tb : s.TypeIs (.ref b) "list") (h : Q .notImplemented s) :
    wpAny (model prog w) A (call (.builtin "dict.__ne__") [.ref a, .ref b]) Q E s := by
  refine wpAny_call_entry PySem.F.slot_dict_ne da PySem.F.entry_dict_ne ?_ (PySem.F.args_dict_ne_2 _ _)
  show wpAny _ _ (Builtin.Dict.dictSlotArgs "__ne__" ⟨[.ref a, .ref b], []⟩ >>= _) _ _ s
  refine wpAny_bind ?_
  unfold Builtin.Dict.dictSlotArgs
  refine wpAny_bind (wpAny_notOrdered_dict da ?_)
  show wpAny _ _ (pure (Value.ref a, Value.ref b)) _ _ s
  refine wpAny_pure ?_
  refine wpAny_bind (wpAny_isInstance (T := "list") tb PySem.F.sub_list_dict ?_)
  simp only [Bool.not_false, if_true]
  exact wpAny_bind (wpAny_rule (wpAny_pure ⟨_, rfl, h⟩))
theorem RcNeAt.my_dict_list {A : Around} {s : Shared} {l b : Addr} {o : Obj} {items2 : Array Value} (ho : s.heap.get? l = some o) (oc : o.cls = .type "dict") (hb : s.heap.IsList b items2) (hu : A.units < cLine) : RcNeAt A s (.ref l) (.ref b) true := fun prog w E Q h => by
  obtain ⟨⟨cls2, dd2, data2, sl2⟩, ho2, hc2, n2, hd2⟩ := id hb
  simp only at hc2 hd2
  subst hc2 hd2
  have hne : l ≠ b := fun e => by subst e; rw [ho] at ho2; cases ho2; exact absurd oc (by simp)
  exact (rc_ne_decline_or (k := false) ⟨_, ho, oc⟩ ⟨_, ho2, rfl⟩ (by decide) F.sub_list_dict F.slot_dict_ne F.slot_list_ne_refl
    (fun _ hq => my_dict_ne_declines (M := ()) ⟨_, ho, oc⟩ ⟨_, ho2, rfl⟩ hq)
    (fun _ hq => call_meets F.slot_list_ne_refl ⟨_, ho2, rfl⟩ F.entry_list_ne (F.args_list_ne_2 _ _) (my_list_ne_declines_dict b l items2 n2 dd2 sl2 o oc) ⟨ho2, ho, hq⟩)
    (fun _ hq => wpAny_isSame_ref_other' hne ho ho2 (by simp) hq) (.inr hu) h)
end PySem.SeqAt
namespace My
open PySem PySem.Spec PyProof.Rows L2
def rNe0 (K : PySem.W.Frag) : R2 := fun x y H Q => ∃ b, y = .ref b ∧ SqL K H b [] ∧ ((∃ ty, Ty7 H x ty ∧ ty ≠ "list" ∧ Q (.bl true) H) ∨ ∃ a xs, x = .ref a ∧ SqL K H a xs ∧ Q (.bl (!xs.isEmpty)) H)
theorem op_ne0 {X : Cx} (hu : X.A.units + 64 < cLine) : OpR X (compareOp .NotEq) (rNe0 X.K) := by
  intro pins s σ H x y v u Q I rx ry h
  obtain ⟨b, rfl, hb, h⟩ := h
  cases (show u = Value.ref b from ry)
  obtain ⟨ws, r2, p2, _⟩ := I.list hb
  have h1 : X.A.units < cLine := by omega
  cases r2
  rcases h with ⟨ty, h7, n, q⟩ | ⟨a, xs, rfl, ha, q⟩
  · suffices hh : SeqAt.RcNeAt X.A s v (.ref b) true from hh _ _ _ _ ⟨.bl true, H, I, rfl, q⟩
    cases h7 with
    | non => cases (show v = Value.none from rx); exact (SeqAt.RcNeAt.none_list p2.isList h1)
    | bl t => cases (show v = Value.bool t from rx); exact (SeqAt.RcNeAt.bool_list t p2.isList h1)
    | int i => obtain ⟨tk, rfl⟩ := (show ∃ tk, v = Value.int i tk from rx); exact (SeqAt.RcNeAt.int_list i tk p2.isList h1)
    | str i => obtain ⟨tk, rfl⟩ := (show ∃ tk, v = Value.str i tk from rx); exact (SeqAt.RcNeAt.str_list i tk p2.isList h1)
    | lst g => exact absurd rfl n
    | @tup c zs g =>
      cases (show v = Value.ref c from rx)
      obtain ⟨us, r1, p1, _⟩ := I.tuple (sqT g)
      exact (SeqAt.RcNeAt.tuple_list p1 p2.isList h1)
    | @dK c kvs g =>
      cases (show v = Value.ref c from rx)
      obtain ⟨_, _, vs, _, d⟩ := I.hok _ _ g
      obtain ⟨o, ho, oc⟩ := d.typeIs
      exact (SeqAt.RcNeAt.my_dict_list ho oc p2.isList h1)
  · cases (show v = Value.ref a from rx)
    obtain ⟨us, r1, p1, _⟩ := I.list ha
    cases xs with
    | nil =>
      cases r1
      have k := SeqAt.RcNeAt.lists (e := fun _ => true) p1.isList p2.isList rfl h1 (fun j h1 h2 => absurd h1 (Nat.not_lt_zero j))
      exact k _ _ _ _ ⟨.bl false, H, I, rfl, q⟩
    | cons x xs =>
      cases r1 with
      | cons a1 b1 =>
        have k := SeqAt.RcNeAt.lists_lengths p1.isList p2.isList (by simp) h1
        exact k _ _ _ _ ⟨.bl true, H, I, rfl, q⟩
theorem op_ne0K {X : Cx} {K : PySem.W.Frag} (hu : X.A.units + 64 < cLine) (h : X.K = K) : OpR X (compareOp .NotEq) (rNe0 K) := by subst h; exact op_ne0 hu
end My

/-! ### what rules look at -/
namespace My
open PySem PySem.Spec PyProof.Rows L2
/-- whether a told size is a part -/
def PtAt (n : Nat) (H : Hp) (v : V) (p : Bool) : Prop := (∃ t, Ty7 H v t ∧ t ≠ "tuple" ∧ p = false) ∨ ∃ (a : Addr) (xs : List V), v = .ref a ∧ H a = some (.tup xs) ∧ p = decide (xs.length = n)
theorem PtAt.same {n : Nat} {H H' : Hp} {v : V} {p : Bool} (h : PtAt n H v p) (s : Same H H') : PtAt n H' v p := by
  rcases h with ⟨t, h, a, b⟩ | ⟨a, xs, e, h, b⟩
  · exact .inl ⟨t, h.mono s, a, b⟩
  · exact .inr ⟨a, xs, e, s _ _ h, b⟩
theorem PtAt.is {n : Nat} {H : Hp} {v : V} {p : Bool} {Q : VK} (h : PtAt n H v p) (q : Q (.bl p) H) : (∃ t, Ty7 H v t ∧ t ≠ "tuple" ∧ Q (.bl false) H) ∨ ∃ (a : Addr) (xs : List V), v = .ref a ∧ H a = some (.tup xs) ∧ Q (.bl (decide (xs.length = n))) H := by
  rcases h with ⟨t, h, a, rfl⟩ | ⟨a, xs, e, h, rfl⟩
  · exact .inl ⟨t, h, a, q⟩
  · exact .inr ⟨a, xs, e, h, q⟩
theorem pss_dead {X : Cx} {sts : List Stmt} : PSs X sts (fun _ _ _ => False) := ⟨fun _ _ _ _ _ _ h => h.elim⟩
theorem fun_ne {K : PySem.W.Frag} {x y x' y' : Str} {st st' : Stmt} {f f' : Addr} {fd fd' : FuncData} (F : Fun K x x' st f fd) (G : Fun K y y' st' f' fd') (h : x ≠ y) : f ≠ f' := by
  rintro rfl
  obtain ⟨oc, od, kV, doc, pm, an, cdv, ct, osl, e, l, _⟩ := F.ex
  obtain ⟨oc', od', kV', doc', pm', an', cdv', ct', osl', e', l', _⟩ := G.ex
  rw [l] at l'
  have q := Option.some.inj l'
  injection q with q1 q2 q3 q4
  injection q3 with q3
  rw [e, e'] at q3
  have := congrArg FuncData.name q3
  exact h this
end My

/-! ### names drawn unlike -/
namespace My
open PySem PySem.Spec PyProof.Rows L2
theorem cutS_dropN (l : List Nat) (m : Nat) (h : m ≤ l.length) : cutS (sO l) (some (m : Int)) none = sO (l.drop m) := by
  unfold cutS
  rw [HT.sIx_none, HT.sIx_nat, sO_len, Nat.min_eq_left h]
  show sO ((l.drop m).take (l.length - m)) = _
  rw [List.take_of_length_le (by rw [List.length_drop]; exact Nat.le_refl _)]
theorem letters_len : lettersL.length = 26 := by decide +kernel
theorem letters_nd : lettersL.Nodup := by decide +kernel
def letN (i : Int) : Nat := lettersL.getD i.toNat 0
theorem letN_at {i : Int} (h0 : 0 ≤ i) (h1 : i < 26) : atI lettersL i = some (letN i) := by
  obtain ⟨j, rfl⟩ := Int.eq_ofNat_of_zero_le h0
  have hj : j < lettersL.length := by rw [letters_len]; omega
  unfold letN atI
  rw [ixN_nat hj, Int.toNat_natCast, List.getD_eq_getElem?_getD, List.getElem?_eq_getElem hj]
  exact List.getElem?_eq_getElem hj
theorem letN_mem {i : Int} (h0 : 0 ≤ i) (h1 : i < 26) : letN i ∈ lettersL := by
  have h := letN_at h0 h1
  unfold atI at h
  obtain ⟨j, _, hj⟩ := Option.bind_eq_some_iff.mp h
  exact List.mem_of_getElem? hj
theorem letN_inj {i j : Int} (i0 : 0 ≤ i) (i1 : i < 26) (j0 : 0 ≤ j) (j1 : j < 26) (h : letN i = letN j) : i = j := by
  obtain ⟨a, rfl⟩ := Int.eq_ofNat_of_zero_le i0
  obtain ⟨b, rfl⟩ := Int.eq_ofNat_of_zero_le j0
  have ha : a < lettersL.length := by rw [letters_len]; omega
  have hb : b < lettersL.length := by rw [letters_len]; omega
  unfold letN at h
  rw [Int.toNat_natCast, Int.toNat_natCast, List.getD_eq_getElem?_getD, List.getD_eq_getElem?_getD, List.getElem?_eq_getElem ha, List.getElem?_eq_getElem hb] at h
  have h : lettersL[a] = lettersL[b] := h
  rw [(List.getElem_inj letters_nd).mp h]
def nameL (st : List Nat) (a : Nat) (sh : Int) (k : Nat) : List Nat := st.take a ++ [letN ((sh + 7 * (k : Int)) % 26)] ++ st.drop a ++ List.replicate (k % 2) 97
theorem nameL_ok {st : List Nat} {a : Nat} {sh : Int} {k : Nat} (h : st.length ≤ 6) (hm : ∀ c ∈ st, c ∈ lettersL) : NameOk (nameL st a sh k) := by
  unfold nameL
  have e := congrArg List.length (List.take_append_drop a st)
  rw [List.length_append] at e
  refine ⟨?_, ?_, fun c mc => ?_⟩
  · simp only [List.length_append, List.length_cons, List.length_nil]; omega
  · simp only [List.length_append, List.length_cons, List.length_nil, List.length_replicate]; omega
  · rw [List.mem_append, List.mem_append, List.mem_append] at mc
    rcases mc with ((mc | mc) | mc) | mc
    · exact hm c (List.mem_of_mem_take mc)
    · rw [List.mem_singleton.mp mc]
      exact letN_mem (Int.emod_nonneg _ (by decide)) (Int.emod_lt_of_pos _ (by decide))
    · exact hm c (List.mem_of_mem_drop mc)
    · rw [(List.mem_replicate.mp mc).2]; decide +kernel
theorem nameL_inj {st : List Nat} {a : Nat} {sh : Int} {j k : Nat} (ha : a ≤ st.length) (hj : j < 26) (hk : k < 26) (h : nameL st a sh j = nameL st a sh k) : j = k := by
  have hl : (st.take a).length = a := by rw [List.length_take]; omega
  have e : ∀ k, (nameL st a sh k)[a]? = some (letN ((sh + 7 * (k : Int)) % 26)) := fun k => by
    unfold nameL
    rw [List.append_assoc, List.append_assoc, List.getElem?_append_right (by omega), hl, Nat.sub_self]; rfl
  have e1 := e j
  rw [h, e k] at e1
  have := letN_inj (Int.emod_nonneg _ (by decide)) (Int.emod_lt_of_pos _ (by decide)) (Int.emod_nonneg _ (by decide)) (Int.emod_lt_of_pos _ (by decide)) (Option.some.inj e1)
  omega
/-- put in at a place -/
theorem put_in {α : Type} (ls : List α) (n : Nat) (y : α) : (ls.take n ++ [y] ++ ls.drop n).Perm (ls ++ [y]) := by
  rw [List.append_assoc]
  refine (List.perm_middle (l₁ := ls.take n) (a := y) (l₂ := ls.drop n)).trans ?_
  rw [List.take_append_drop]
  exact (List.perm_append_singleton y ls).symm
theorem names_ok {st : List Nat} {a : Nat} {sh : Int} {n : Nat} {ls : List (List Nat)} (h : st.length ≤ 6) (hm : ∀ c ∈ st, c ∈ lettersL) (ha : a ≤ st.length) (hn : n ≤ 26) (p : ls.Perm ((List.range n).map (nameL st a sh))) :
    ls.length = n ∧ (∀ l ∈ ls, NameOk l) ∧ ls.Nodup := by
  refine ⟨by rw [p.length_eq, List.length_map, List.length_range], fun l ml => ?_, p.nodup_iff.mpr ?_⟩
  · obtain ⟨k, _, rfl⟩ := List.mem_map.mp (p.mem_iff.mp ml)
    exact nameL_ok h hm
  · rw [List.nodup_iff_pairwise_ne, List.pairwise_map]
    refine (List.nodup_range (n := n)).imp_of_mem fun {j k} mj mk ne e => ne ?_
    exact nameL_inj ha (by have := List.mem_range.mp mj; omega) (by have := List.mem_range.mp mk; omega) e
section
variable {X : Cx}
/-- c * n, n not below 0 -/
def rRepS0 : R2 := fun x y H Q => ∃ (c : Nat) (n : Nat), x = .str ⟨#[c]⟩ ∧ y = .int (n : Int) ∧ n ≤ 1000 ∧ Q (.str (sO (List.replicate n c))) H
theorem op_repS0 : OpR X (binaryOp .Mult) rRepS0 := by
  intro pins s σ H x y v u Q I rx ry h
  obtain ⟨c, n, ex, ey, n2, q⟩ := h
  by_cases n1 : 1 ≤ n
  · exact op_repS pins s σ H x y v u Q I rx ry ⟨c, n, ex, ey, n1, n2, q⟩
  · have e : n = 0 := by omega
    subst e ex ey
    obtain ⟨t, rfl⟩ := rx
    obtain ⟨t', rfl⟩ := ry
    refine P.mul_str_none (by decide) (by decide) ?_
    exact ⟨.str (sO []), H, I.tok _, ⟨_, rfl⟩, q⟩
/-- what is never run -/
theorem ps_dead {st : Stmt} : PS X st (fun _ _ _ => False) := ⟨fun _ _ _ _ _ _ h => h.elim⟩
theorem pe_dead {e : Expr} : PE X e (fun _ _ _ => False) := ⟨fun _ _ _ _ _ _ h => h.elim⟩
end
end My
namespace My
open PySem PySem.Spec PyProof.Rows L2
theorem cutS_mid (l : List Nat) (a b : Nat) (h1 : a ≤ b) (h2 : b ≤ l.length) : cutS (sO l) (some (a : Int)) (some (b : Int)) = sO ((l.drop a).take (b - a)) := by
  unfold cutS
  rw [HT.sIx_nat, HT.sIx_nat, sO_len, Nat.min_eq_left (Nat.le_trans h1 h2), Nat.min_eq_left h2]
theorem cutS_any (l : List Nat) (u : Option Int) : ∃ m, cutS (sO l) none u = sO (l.take m) := by
  unfold cutS
  rw [HT.sIx_none]
  refine ⟨HT.sIx (sO l).length (sO l).length u - 0, ?_⟩
  rfl
end My

/-! ### a statement that gives a token out, and what may stand behind it -/
namespace My
open PySem PySem.Spec PyProof.Rows L2
def PEG (X : Cx) (e : Expr) (t : TE) : Prop :=
  ∀ (pins : List (Addr × Obj)) (s : Shared) (σ : L2.St) (H : Hp) (Q : VK), Inv X pins σ H s → t σ H Q → wpAny (model X.prog X.w) X.A (eval e X.env) (fun v s1 => 1 ≤ s1.toks ∧ EP X pins σ Q v s1) X.xe s
section
variable {X : Cx}
/-- 'c'.join(e) -/
theorem peg_joinN {K : PySem.W.Frag} (hK : X.K = K) {c : Str} {j : Nat} {cp : Pos} {e : Expr} {te : TE} {apos pos : Pos} (he : PE X e te) (hs : starEach [e] X.env = [(false, eval e X.env)] := by rfl) (hbase : attributeBase (.Constant (.str c) j cp) "join" X.env (eval (.Constant (.str c) j cp) X.env) = eval (.Constant (.str c) j cp) X.env := by rfl) (hline : (apos.endLine == pos.line) = true := by rfl) :
    PEG X (.Call (.Attribute (.Constant (.str c) j cp) "join" apos) [e] [] pos) (tM1 (fun x xs H Q => ∃ (a : List Nat) (p : Addr) (ys : List (List Nat)), x = .str (sO a) ∧ xs = [.ref p] ∧ SqL K H p (ys.map fun y => V.str (sO y)) ∧ (ys.map List.length).sum + ys.length * a.length ≤ 16777216 ∧ Q (.str (sO (TL.joinL a ys))) H) (tC (.str c)) te) := by
  intro pins s σ H Q I h
  refine PySem.Call_method1 hbase hs hline (PySem.Calls.Constant_str ?_)
  obtain ⟨_, q1⟩ := h
  refine ⟨"str", _, PySem.F.plainAttrs_str, PySem.F.slot_str_join, PySem.F.type_str_join, typeIs_str _ _ _, (fun _ e => nomatch e), Calls.callWith_builtin rfl (Calls.evalArgs_plain (Calls.spliced_cons ?_))⟩
  refine wpAny_mono (PySem.wpAny_toks_of (n := 1) (Nat.succ_le_succ (Nat.zero_le _)) (he.run pins _ σ H _ (I.tok (s.toks + 1)) q1)) (fun u s2 q => ?_) fun _ _ z => z.2
  obtain ⟨hk, y, H2, I2, r2, q2⟩ := q
  exact Calls.spliced_nil (wpAny_mono (PySem.wpAny_toks_of (n := 1) hk (mt_joinN hK pins s2 σ H2 (.str c) [y] _ [u] Q I2 ⟨s.toks, rfl⟩ (.cons r2 .nil) q2)) (fun _ _ z => z) fun _ _ z => z.2)
/-- x = e, e gives a token out -/
theorem pss_setG {i : Nat} {x : Str} {e : Expr} {te : TE} {pos' pos : Pos} {rest : List Stmt} {u : TS} (hN : X.N.Nodup) (hi : X.N[i]? = some x) (hx : Loc X.env.scope x) (he : PEG X e te) (h2 : PSsT X rest u)
    (hs : swapsWith e (some (.Name x pos')) pos.line X.env = pure false := by rfl) (hf : X.fn x = true ∨ X.env.scope.names.lookup x = some .local := by first | exact .inl rfl | exact .inr rfl | assumption) :
    PSs X (.Assign [.Name x pos'] e pos :: rest) (tSeq (tAsg te (gName i)) u) := by
  refine ⟨fun pins s σ H D I h => ?_⟩
  refine wpAny_execs_cons (wpAny_Assign_Name (thn (he pins s σ H _ I h) fun v s1 q => ?_) hs)
  obtain ⟨hk, y, H1, I1, r1, q1⟩ := q
  refine wpAny_mono (PySem.wpAny_toks_of (n := 1) hk (store_ok (v := y) (u := v) (Q := fun _ s2 => Inv X pins (σ.set i (some y)) H1 s2) I1 hN hi hx r1 (fun _ I2 => I2) hf)) (fun _ s2 q => ?_) fun _ _ z => z.2
  exact h2 pins s2 _ H1 D q.1 q.2 q1
theorem psst_ps {st : Stmt} {rest : List Stmt} {t u : TS} (h1 : PS X st t) (h2 : PSsT X rest u) : PSsT X (st :: rest) (tSeq t u) := psst_cons (PST.of h1) h2
theorem psst_end {st : Stmt} {t : TS} (h : PST X st t) : PSsT X [st] t := CwR.psst_one h
theorem pet_call {CX : CXT} {k : Nat} {f : Addr} {fd : FuncData} {ps : List Str} {ds : List Value} {dvs : List V} {sp : Sp} {E : XK} {x : Str} {p pos : Pos} {e : Expr} {es : List Expr} {t : TA} (F : FnOk X.prog X.w X.K X.mg X.base CX k f fd ps sp) (hr : Room k X.A) (hg : Gl X x) (hm : X.mg x = some (.ref f)) (hk : PySem.W.keepIn X.K (.ref f) = true) (hb : Binds X.K fd ps ds) (hd : Vals dvs ds) (hx : Passes CX X E)
    (ha : PAT X (e :: es) t) (hdb : (x == ("__debug__" : Str)) = false := by decide) (he : starEach (e :: es) X.env = (false, eval e X.env) :: starEach es X.env := by rfl) (hpl : (backTo pos (starEach es X.env)).any (·.1) = false := by rfl) :
    PET X (.Call (.Name x p) (e :: es) [] pos) (tCall sp dvs E t) := by
  intro pins s σ H Q h0 I h
  refine wpAny_Call_Name_kw (ld_glob I hg hm ?_ hdb)
  refine PySem.W.callWith_K (h₀ := X.base) I.ok.mod.kin hk (thn (ha pos pins s σ H _ h0 I h) fun us s1 ⟨vs, H1, I1, r, q⟩ => ⟨I1.kIn, ?_⟩) he hpl
  exact run_fn F hr hb hd hx I1 r q
theorem pet_cmpo {op : CmpOp} {r : R2} {a b : Expr} {ta tb : TE} {pos : Pos} (ho : OpR X (compareOp op) r) (ha : PET X a ta) (hb : PE X b tb) (h1 : behindInMarks op b = false := by first | exact nobehind _ (by decide) (by decide) | rfl) : PET X (.Compare a [op] [b] pos) (tOp r ta tb) := by
  intro pins s σ H Q h0 I h
  refine wpAny_Compare1 (thn (ha pins s σ H _ h0 I h) fun v s1 ⟨x, H1, I1, r1, q1⟩ => ?_) h1
  exact thn (hb.run pins s1 σ H1 _ I1 q1) fun u s2 ⟨y, H2, I2, r2, q2⟩ => ho pins s2 σ H2 x y v u Q I2 r1 r2 q2
end
end My

/-! ### a display of one pair whose key is a tuple; more on tokens -/
namespace My
open PySem PySem.Spec PyProof.Rows L2
section
variable {X : Cx}
def tDisp1 (tk tv : TE) : TE := fun σ H Q => ∀ p H0, H p = none → Same H H0 → H0 p = some (.dT []) →
  tPairs [(tk, tv)] σ H0 fun ps H2 => ∃ b k y, ps = [(.ref b, y)] ∧ H2 b = some (.tup (k.map kV)) ∧ H2 p = some (.dT []) ∧ ∀ H3, But p H2 H3 → H3 p = some (.dT [(k, y)]) → Q (.ref p) H3
theorem pe_disp1 {pos : Pos} {k v : Expr} {tk tv : TE} (hu : X.A.units + 1 < cLine) (hk : PE X k tk) (hv : PE X v tv) : PE X (.Dict [some k] [v] pos) (tDisp1 tk tv) := by
  refine ⟨fun pins s σ H Q I q => ?_⟩
  have hn := I.hok.fresh (Nat.le_refl s.heap.objs.size)
  have I1 := I.laid (a := s.heap.objs.size) (o := .dT []) (h' := s.heap.push { cls := .type "dict", data := .dict #[] }) (t' := s.toks) (fun _ _ q => Heap.get?_push_of_some _ q) (Nat.le_refl _) (dt_empty s.heap I.big)
  have h0 : pairTrees [some k] [v] X.env pos ≠ [] := by simp [pairTrees]
  have hl : (pairTrees [some k] [v] X.env pos).length ≤ 15 := by simp [pairTrees]
  rw [arm_eval_Dict, zip_pairTrees [some k] [v] X.env pos rfl rfl, dictDisplay_pairs _ h0 (by omega)]
  refine wpAny_bind (wpAny_standAt (wpAny_bind (wpAny_subDictH (knd := tupleKind (mixKind X.prog X.w)) (Nat.lt_of_succ_lt hu) hl ?_)))
  refine thn ((pps_cons hk hv pps_nil).run pins _ σ _ _ I1 (q _ _ hn (Same.upd0 hn) upd_same)) fun ws s2 ⟨ps, H2, I2, rel, b, kk, y, ep, hb, hp, q2⟩ => ?_
  subst ep
  cases rel with
  | @cons _ w0 _ ws' r rr =>
    cases rr
    obtain ⟨r1, r2⟩ := r
    obtain ⟨u1, u2⟩ := w0
    have r1 : u1 = Value.ref b := r1
    subst r1
    obtain ⟨z, hd, xs, rx, dd⟩ := dt_of I2.hok hp
    cases rx
    refine ⟨[(kk, b, u2)], ⟨rfl, rfl, key_of I2.hok hb, trivial⟩, dd, fun h' tk dd' hs => wpAny_pure ?_⟩
    rw [storedAllH_nil_of_nodup _ (by simp)] at dd'
    obtain ⟨qo, es, epp, hq, h2, h3, h4, _, h5⟩ := dd'
    refine ⟨.ref s.heap.objs.size, upd H2 s.heap.objs.size (.dT [(kk, y)]), ?_, rfl, q2 _ (But.upd But.refl) upd_same⟩
    refine d_write I2 (by rw [hp]; exact True.intro) hs ⟨qo, hq⟩ ⟨Nat.le_of_ble_eq_true rfl, hd, [(kk, b, u2)], .cons ⟨rfl, ?_, r2⟩ .nil, qo, es, epp, hq, h2, h3, h4, h5⟩
    rw [upd_ne (ne_of hb hp (fun z => nomatch z))]
    exact hb
end
/-! #### tokens -/
section
variable {X : Cx}
def PAG (X : Cx) (es : List Expr) (t : TA) : Prop := ∀ (pos : Pos) (pins : List (Addr × Obj)) (s : Shared) (σ : L2.St) (H : Hp) (Q : List V → Hp → Prop), Inv X pins σ H s → t σ H Q → wpAny (model X.prog X.w) X.A (spliced (backTo pos (starEach es X.env))) (fun us s1 => 1 ≤ s1.toks ∧ AP X pins σ Q us s1) X.xe s
theorem pag_int {i : Int} {j : Nat} {p : Pos} (hs : starEach [.Constant (.int i) j p] X.env = [(false, eval (.Constant (.int i) j p) X.env)] := by rfl) : PAG X [.Constant (.int i) j p] (tCons (tC (.int i)) tNil) := by
  intro pos pins s σ H Q I h
  rw [hs]
  show wpAny _ _ (spliced ((false, eval (.Constant (.int i) j p) X.env) :: [])) _ _ s
  refine Calls.spliced_cons (wpAny_Constant_int (Calls.spliced_nil ⟨?_, [.int i], H, I.tok _, .cons ⟨_, rfl⟩ .nil, h⟩))
  show 1 ≤ s.toks + 1
  omega
theorem pag_cons {e : Expr} {es : List Expr} {te : TE} {t : TA} (ha : PE X e te) (hr : PAG X es t) (hs : starEach (e :: es) X.env = (false, eval e X.env) :: starEach es X.env := by rfl) : PAG X (e :: es) (tCons te t) := by
  intro pos pins s σ H Q I h
  rw [hs]
  show wpAny _ _ (spliced ((false, eval e X.env) :: backTo pos (starEach es X.env))) _ _ s
  refine Calls.spliced_cons (thn (ha.run pins s σ H _ I h) fun u s1 ⟨x, H1, I1, r1, q1⟩ => ?_)
  exact thn (hr pos pins s1 σ H1 _ I1 q1) fun us s2 ⟨tk, xs, H2, I2, r2, q2⟩ => ⟨tk, x :: xs, H2, I2, .cons r1 r2, q2⟩
theorem peg_lstA {es : List Expr} {t : TA} {pos : Pos} (h : PAG X es t) : PEG X (.List es pos) (tLstA t) := by
  intro pins s σ H Q I hq
  refine wpAny_List_spliced (thn (h pos pins s σ H _ I hq) fun us s1 ⟨tk, xs, H1, I1, r, z, q⟩ => ⟨by rw [← r.length]; exact z, ?_⟩)
  have hf : H1 s1.heap.objs.size = none := I1.hok.fresh (Nat.le_refl _)
  refine ⟨tk, .ref s1.heap.objs.size, upd H1 s1.heap.objs.size (.lst xs), I1.laid (t' := s1.toks) (fun b u e => Heap.get?_push_of_some _ e) (Nat.le_refl _) ?_, rfl, q.go _ hf⟩
  exact ⟨z, us, 0, r, Heap.get?_push_size _ rfl⟩
/-- x = e, e wants a token -/
theorem pst_set {i : Nat} {x : Str} {e : Expr} {te : TE} {pos' pos : Pos} (hN : X.N.Nodup) (hi : X.N[i]? = some x) (hx : Loc X.env.scope x) (he : PET X e te)
    (hs : swapsWith e (some (.Name x pos')) pos.line X.env = pure false := by rfl) (hf : X.fn x = true ∨ X.env.scope.names.lookup x = some .local := by first | exact .inl rfl | exact .inr rfl | assumption) :
    PST X (.Assign [.Name x pos'] e pos) (tAsg te (gName i)) := by
  intro pins s σ H D h0 I h
  refine wpAny_Assign_Name (thn (he pins s σ H _ h0 I h) fun v s1 ⟨y, H1, I1, r1, q1⟩ => ?_) hs
  exact store_ok (v := y) (u := v) (Q := fun _ s2 => SP X pins D .next s2) I1 hN hi hx r1 (fun s2 I2 => ⟨_, H1, I2, q1⟩) hf
end
end My

/-! ### broken lines: what fits, other breakings, no fewer lines -/
namespace My
open PySem L2
/-! #### words have no blanks -/
theorem cut_no (c : Nat) : ∀ (l p : List Nat), p ∈ cut c l → c ∉ p
  | [], p, h => by rw [List.mem_singleton.mp h]; simp
  | d :: r, p, h => by
    have ih := cut_no c r
    obtain ⟨q, qs, e⟩ := cut_ne c r
    by_cases hd : d = c
    · subst hd
      rw [cut_hit] at h
      rcases List.mem_cons.mp h with rfl | h
      · simp
      · exact ih p h
    · rw [cut_miss hd e] at h
      rw [e] at ih
      rcases List.mem_cons.mp h with rfl | h
      · have := ih q (List.mem_cons_self ..)
        simp [this]; exact fun e => hd e.symm
      · exact ih p (List.mem_cons_of_mem _ h)
theorem cut_none (c : Nat) : ∀ p : List Nat, c ∉ p → cut c p = [p]
  | [], _ => rfl
  | d :: r, h => by
    have hd : d ≠ c := fun e => h (by rw [e]; exact List.mem_cons_self ..)
    rw [cut_miss hd (cut_none c r fun hr => h (List.mem_cons_of_mem _ hr))]
theorem cut_join (c : Nat) : ∀ g : List (List Nat), g ≠ [] → (∀ p ∈ g, c ∉ p) → cut c (TL.joinL [c] g) = g
  | [], h, _ => absurd rfl h
  | [p], _, h => cut_none c p (h p (List.mem_cons_self ..))
  | p :: q :: g, _, h => by
    have ih := cut_join c (q :: g) (by simp) fun y hy => h y (List.mem_cons_of_mem _ hy)
    show cut c (p ++ ([c] ++ TL.joinL [c] (q :: g))) = _
    rw [List.singleton_append, cut_append, cut_none c p (h p (List.mem_cons_self ..)), ih]; rfl
/-- words: of at least one sign, without blanks -/
def Wd (x : List Nat) : Prop := 0 < x.length ∧ 32 ∉ x
theorem words_wd {p x : List Nat} (h : x ∈ wordsL p) : Wd x := ⟨words_pos h, cut_no 32 p x (List.mem_filter.mp h).1⟩
theorem split_jn {g : List (List Nat)} (hn : g ≠ []) (h : ∀ x ∈ g, Wd x) : cut 32 (jn g) = g := cut_join 32 g hn fun x hx => (h x hx).2
theorem words_jn {g : List (List Nat)} (h : ∀ x ∈ g, Wd x) : wordsL (jn g) = g := by
  by_cases hn : g = []
  · subst hn; rfl
  · unfold wordsL
    rw [split_jn hn h, List.filter_eq_self]
    intro x hx
    have := (h x hx).1
    cases x with
    | nil => cases this
    | cons a x => rfl
/-! #### what fits -/
def lsum (ws : List (List Nat)) : Nat := (ws.map List.length).sum
theorem lsum_cons (x : List Nat) (ws : List (List Nat)) : lsum (x :: ws) = x.length + lsum ws := by unfold lsum; rw [List.map_cons, List.sum_cons]
theorem lsum_append (a b : List (List Nat)) : lsum (a ++ b) = lsum a + lsum b := by unfold lsum; rw [List.map_append, List.sum_append]
theorem jn_len (g : List (List Nat)) : (jn g).length = lsum g + (g.length - 1) := joinL_len 32 g
theorem more_fits (w : Nat) : ∀ (ws : List (List Nat)) (l j : Nat), 1 ≤ j → j ≤ moreN w l ws → l + lsum (ws.take j) + j ≤ w
  | [], l, j, h1, h2 => by have : moreN w l [] = 0 := rfl; omega
  | x :: ws, l, j, h1, h2 => by
    have h2 : j ≤ if l + 1 + x.length ≤ w then moreN w (l + 1 + x.length) ws + 1 else 0 := h2
    split at h2
    · rename_i h
      obtain ⟨k, rfl⟩ : ∃ k, j = k + 1 := ⟨j - 1, by omega⟩
      rw [List.take_succ_cons, lsum_cons]
      by_cases hk : k = 0
      · subst hk
        rw [List.take_zero]
        show l + (x.length + 0) + 1 ≤ w
        omega
      · have := more_fits w ws (l + 1 + x.length) k (by omega) (by omega)
        omega
    · omega
theorem more_ge (w : Nat) : ∀ (ws : List (List Nat)) (l j : Nat), j ≤ ws.length → l + lsum (ws.take j) + j ≤ w → j ≤ moreN w l ws
  | ws, l, 0, _, _ => Nat.zero_le _
  | [], l, j + 1, h1, _ => by cases h1
  | x :: ws, l, j + 1, h1, h2 => by
    rw [List.take_succ_cons, lsum_cons] at h2
    show j + 1 ≤ if l + 1 + x.length ≤ w then moreN w (l + 1 + x.length) ws + 1 else 0
    rw [if_pos (by omega)]
    have := more_ge w ws (l + 1 + x.length) j (Nat.le_of_succ_le_succ h1) (by omega)
    omega
theorem fit_fits {w : Nat} {ws : List (List Nat)} {j : Nat} (h1 : 2 ≤ j) (h2 : j ≤ fitN w ws) : (jn (ws.take j)).length ≤ w := by
  cases ws with
  | nil => cases Nat.le_trans h1 h2
  | cons x ws =>
    have h2 : j ≤ moreN w x.length ws + 1 := h2
    obtain ⟨k, rfl⟩ : ∃ k, j = k + 1 := ⟨j - 1, by omega⟩
    have := more_fits w ws x.length k (by omega) (by omega)
    have hl := moreN_le w ws x.length
    rw [jn_len, List.take_succ_cons, lsum_cons, List.length_cons, List.length_take]
    omega
theorem fit_ge {w : Nat} {ws : List (List Nat)} {j : Nat} (h1 : j ≤ ws.length) (h2 : (jn (ws.take j)).length ≤ w) : j ≤ fitN w ws := by
  cases ws with
  | nil => exact h1
  | cons x ws =>
    show j ≤ moreN w x.length ws + 1
    cases j with
    | zero => omega
    | succ k =>
      rw [jn_len, List.take_succ_cons, lsum_cons, List.length_cons, List.length_take] at h2
      have h1 : k ≤ ws.length := Nat.le_of_succ_le_succ h1
      have := more_ge w ws x.length k h1 (by omega)
      omega
theorem fit_wide {w w' : Nat} (h : w ≤ w') (ws : List (List Nat)) : fitN w ws ≤ fitN w' ws := by
  by_cases h2 : 2 ≤ fitN w ws
  · exact fit_ge (fitN_le w ws) (Nat.le_trans (fit_fits h2 (Nat.le_refl _)) h)
  · by_cases e : ws = []
    · subst e; exact Nat.le_refl _
    · have := fitN_pos w' e; omega
/-- who begins farther on comes as far -/
theorem fit_far {w a b m : Nat} {ws : List (List Nat)} (hab : a ≤ b) (hb : b < ws.length) (h : m ≤ a + fitN w (ws.drop a)) : m ≤ b + fitN w (ws.drop b) := by
  have hne : ws.drop b ≠ [] := fun e => by have := congrArg List.length e; rw [List.length_drop] at this; simp at this; omega
  have hp := fitN_pos w hne
  by_cases h1 : m ≤ b + 1
  · omega
  · by_cases e : a = b
    · rw [← e]; exact h
    · have hl := fitN_le w (ws.drop a)
      rw [List.length_drop] at hl
      have hf := fit_fits (w := w) (ws := ws.drop a) (j := m - a) (by omega) (by omega)
      have hd : (ws.drop a).take (m - a) = (ws.drop a).take (b - a) ++ (ws.drop b).take (m - b) := by
        have e1 : ws.drop b = (ws.drop a).drop (b - a) := by rw [List.drop_drop]; congr 1; omega
        rw [e1, show m - a = (b - a) + (m - b) by omega, List.take_add]
      have : m - b ≤ fitN w (ws.drop b) := by
        refine fit_ge (by rw [List.length_drop]; omega) (Nat.le_trans ?_ hf)
        rw [jn_len, jn_len, hd, lsum_append, List.length_append]; omega
      omega
/-! #### other breakings -/
def BrkOk (w : Nat) (ws : List (List Nat)) : Nat → List Nat → Prop
  | a, [] => ws.length ≤ a
  | a, m :: r => a < m ∧ m ≤ a + fitN w (ws.drop a) ∧ BrkOk w ws m r
/-- how many words stand in the first lines -/
def cumL : Nat → List (List (List Nat)) → List Nat
  | _, [] => []
  | s, g :: gs => (s + g.length) :: cumL (s + g.length) gs
theorem cumL_len : ∀ (gs : List (List (List Nat))) (s : Nat), (cumL s gs).length = gs.length
  | [], _ => rfl
  | g :: gs, s => by show (cumL _ gs).length + 1 = gs.length + 1; rw [cumL_len gs]
theorem brk_drop {w b : Nat} {ws : List (List Nat)} (hb : b < ws.length) : brk w (ws.drop b) = (ws.drop b).take (fitN w (ws.drop b)) :: brk w (ws.drop (b + fitN w (ws.drop b))) := by
  have hne : ws.drop b ≠ [] := fun e => by have := congrArg List.length e; rw [List.length_drop] at this; simp at this; omega
  rw [brk_cons w hne, List.drop_drop]
theorem brk_nil_of {w b : Nat} {ws : List (List Nat)} (hb : ws.length ≤ b) : brk w (ws.drop b) = [] := by
  rw [List.drop_of_length_le hb]; rfl
theorem cum_ahead (w : Nat) (ws : List (List Nat)) : ∀ (ms : List Nat) (a b : Nat), a ≤ b → BrkOk w ws a ms → (cumL b (brk w (ws.drop b))).length ≤ ms.length ∧ ∀ (i t m : Nat), (cumL b (brk w (ws.drop b)))[i]? = some t → ms[i]? = some m → m ≤ t
  | ms, a, b, hab, h => by
    by_cases hb : b < ws.length
    · cases ms with
      | nil =>
        have h : ws.length ≤ a := h
        omega
      | cons m r =>
        obtain ⟨h1, h2, h3⟩ := h
        have hm := fit_far hab hb h2
        have hfl := fitN_le w (ws.drop b)
        have hne : ws.drop b ≠ [] := fun e => by have := congrArg List.length e; rw [List.length_drop] at this; simp at this; omega
        have ih := cum_ahead w ws r m (b + fitN w (ws.drop b)) hm h3
        rw [brk_drop hb]
        have e1 : b + ((ws.drop b).take (fitN w (ws.drop b))).length = b + fitN w (ws.drop b) := by rw [List.length_take, Nat.min_eq_left hfl]
        have e2 : cumL b ((ws.drop b).take (fitN w (ws.drop b)) :: brk w (ws.drop (b + fitN w (ws.drop b)))) = (b + fitN w (ws.drop b)) :: cumL (b + fitN w (ws.drop b)) (brk w (ws.drop (b + fitN w (ws.drop b)))) := by
          show (b + _) :: cumL (b + _) _ = _
          rw [e1]
        rw [e2]
        refine ⟨Nat.succ_le_succ ih.1, fun i t m' ht hm' => ?_⟩
        cases i with
        | zero => cases ht; cases hm'; exact hm
        | succ i => exact ih.2 i t m' ht hm'
    · rw [brk_nil_of (by omega)]
      exact ⟨Nat.zero_le _, fun i t m ht => by cases ht⟩
/-- the lines at a width are a breaking at any greater one -/
theorem brk_ok {w w' : Nat} (h : w ≤ w') (ws : List (List Nat)) : ∀ (n b : Nat), ws.length - b ≤ n → b ≤ ws.length → BrkOk w' ws b (cumL b (brk w (ws.drop b)))
  | 0, b, hn, hl => by
    rw [brk_nil_of (by omega)]
    show ws.length ≤ b
    omega
  | n + 1, b, hn, hl => by
    by_cases hb : b < ws.length
    · have hfl := fitN_le w (ws.drop b)
      have hne : ws.drop b ≠ [] := fun e => by have := congrArg List.length e; rw [List.length_drop] at this; simp at this; omega
      have hp := fitN_pos w hne
      have hw := fit_wide h (ws.drop b)
      rw [List.length_drop] at hfl
      rw [brk_drop hb]
      have e1 : b + ((ws.drop b).take (fitN w (ws.drop b))).length = b + fitN w (ws.drop b) := by rw [List.length_take, List.length_drop, Nat.min_eq_left hfl]
      show BrkOk w' ws b ((b + _) :: cumL (b + _) _)
      rw [e1]
      exact ⟨by omega, by omega, brk_ok h ws n _ (by omega) (by omega)⟩
    · rw [brk_nil_of (by omega)]
      show ws.length ≤ b
      omega
theorem brk_fewer {w w' : Nat} (h : w ≤ w') (ws : List (List Nat)) : (brk w' ws).length ≤ (brk w ws).length := by
  have h1 := (cum_ahead w' ws _ 0 0 (Nat.le_refl _) (brk_ok h ws _ 0 (Nat.le_refl _) (Nat.zero_le _))).1
  rwa [cumL_len, cumL_len, List.drop_zero] at h1
/-! #### each line: it fits, or it is one word -/
theorem brk_fits (w : Nat) : ∀ (n : Nat) (ws : List (List Nat)), ws.length ≤ n → ∀ g ∈ brk w ws, g.length = 1 ∨ (jn g).length ≤ w
  | 0, ws, h, g, hg => by
    have : ws = [] := List.length_eq_zero_iff.mp (by omega)
    subst this; cases hg
  | n + 1, ws, h, g, hg => by
    by_cases e : ws = []
    · subst e; cases hg
    · have h1 := fitN_pos w e
      have hfl := fitN_le w ws
      rw [brk_cons w e] at hg
      rcases List.mem_cons.mp hg with rfl | hg
      · by_cases h2 : 2 ≤ fitN w ws
        · exact .inr (fit_fits h2 (Nat.le_refl _))
        · exact .inl (by rw [List.length_take]; omega)
      · exact brk_fits w n _ (by rw [List.length_drop]; omega) g hg
theorem brk_line {w w' : Nat} (h : w ≤ w') {ws g : List (List Nat)} (hg : g ∈ brk w ws) : brk w' g = [g] := by
  have hn := brk_ne w _ ws (Nat.le_refl _) g hg
  have e : fitN w' g = g.length := by
    refine Nat.le_antisymm (fitN_le _ _) ?_
    rcases brk_fits w _ ws (Nat.le_refl _) g hg with h1 | h1
    · rw [h1]; exact fitN_pos w' hn
    · exact fit_ge (Nat.le_refl _) (by rw [List.take_length]; exact Nat.le_trans h1 h)
  rw [brk_cons w' hn, e, List.take_length, List.drop_length]; rfl
theorem brk_mem {w : Nat} {ws g : List (List Nat)} (hg : g ∈ brk w ws) {x : List Nat} (hx : x ∈ g) : x ∈ ws := by
  rw [← brk_words w ws]
  exact List.mem_flatten.mpr ⟨g, hg, hx⟩
/-! #### the lines of a part as told by their words -/
theorem cumL_last : ∀ (gs : List (List (List Nat))) (s : Nat), gs ≠ [] → ∃ ini, cumL s gs = ini ++ [s + gs.flatten.length]
  | [], _, h => absurd rfl h
  | [g], s, _ => ⟨[], by show [s + g.length] = [s + ([g].flatten).length]; rw [List.flatten_cons, List.flatten_nil, List.append_nil]⟩
  | g :: g2 :: gs, s, _ => by
    obtain ⟨ini, e⟩ := cumL_last (g2 :: gs) (s + g.length) (by simp)
    refine ⟨(s + g.length) :: ini, ?_⟩
    show (s + g.length) :: cumL (s + g.length) (g2 :: gs) = _
    rw [e, List.flatten_cons (l := g), List.length_append, Nat.add_assoc]; rfl
theorem jn_app : ∀ (a b : List (List Nat)), a ≠ [] → b ≠ [] → jn (a ++ b) = jn a ++ 32 :: jn b
  | [], _, h, _ => absurd rfl h
  | [x], y :: b, _, _ => rfl
  | [x], [], _, h => absurd rfl h
  | x :: y :: a, b, _, hb => by
    have ih := jn_app (y :: a) b (by simp) hb
    show x ++ ([32] ++ jn (y :: a ++ b)) = (x ++ ([32] ++ jn (y :: a))) ++ 32 :: jn b
    rw [ih]; simp
theorem jn_jn : ∀ gs : List (List (List Nat)), (∀ g ∈ gs, g ≠ []) → jn (gs.map jn) = jn gs.flatten
  | [], _ => rfl
  | [g], _ => by rw [List.flatten_cons, List.flatten_nil, List.append_nil]; rfl
  | g :: g2 :: gs, h => by
    have ih := jn_jn (g2 :: gs) fun x hx => h x (List.mem_cons_of_mem _ hx)
    have h2 : (g2 :: gs).flatten ≠ [] := fun e => h g2 (by simp) (by rw [List.flatten_cons] at e; exact (List.append_eq_nil_iff.mp e).1)
    rw [List.flatten_cons, jn_app g _ (h g (by simp)) h2, ← ih]; rfl
theorem lineG_brk {w : Nat} {ws : List (List Nat)} (h : ws ≠ []) : lineG w ws = (brk w ws).map jn := by
  unfold lineG
  rw [if_neg (by rw [List.isEmpty_iff]; exact h)]
theorem brk_nonempty {w : Nat} {ws : List (List Nat)} (h : ws ≠ []) : brk w ws ≠ [] := by rw [brk_cons w h]; simp
theorem brk_okc {w : Nat} (ws : List (List Nat)) : BrkOk w ws 0 (cumL 0 (brk w ws)) := by
  have := brk_ok (Nat.le_refl w) ws _ 0 (Nat.le_refl _) (Nat.zero_le _)
  rwa [List.drop_zero] at this
theorem brk_ahead {w : Nat} {ws : List (List Nat)} {ms : List Nat} (h : BrkOk w ws 0 ms) : (cumL 0 (brk w ws)).length ≤ ms.length ∧ ∀ (i t m : Nat), (cumL 0 (brk w ws))[i]? = some t → ms[i]? = some m → m ≤ t := by
  have := cum_ahead w ws ms 0 0 (Nat.le_refl _) h
  rwa [List.drop_zero] at this
theorem flat_sum : ∀ {gs : List (List (List Nat))} {g : List (List Nat)}, g ∈ gs → (g.map List.length).sum + g.length ≤ (gs.flatten.map List.length).sum + gs.flatten.length
  | h :: gs, g, hg => by
    rw [List.flatten_cons, List.map_append, List.sum_append, List.length_append]
    rcases List.mem_cons.mp hg with rfl | hg
    · omega
    · have := flat_sum hg; omega
theorem flat_len : ∀ {gs : List (List (List Nat))}, (∀ g ∈ gs, g ≠ []) → gs.length ≤ gs.flatten.length
  | [], _ => Nat.le_refl _
  | g :: gs, h => by
    have := flat_len fun x hx => h x (List.mem_cons_of_mem g hx)
    have := List.length_pos_iff.mpr (h g (List.mem_cons_self ..))
    rw [List.flatten_cons, List.length_append, List.length_cons]; omega
end My

/-! ### boxes by their kind; lines counted -/
namespace My
open PySem PySem.Spec PyProof.Rows L2
section
variable {bc : Kd → Addr} {S : Addr} {K : PySem.W.Frag} {H : Hp} {b : At}
theorem BoxAt.wordsO (h : BoxAt bc S K H b) {t : List Nat} (e : b.own = .words t) : ∃ dx y, H b.x = some (.ins (bc .words) dx [("name", .str (sO b.nm)), ("text", .str (sO t)), ("style", .ref y)]) ∧ t.length ≤ 10000 := by
  cases h with
  | words hx hy ok hn ht => cases e; exact ⟨_, _, hx, ht⟩
  | picture hx hy ok hn ha hd => cases e
  | row hx hy ok hn g0 l0 hb lk hk => cases e
  | pile hx hy ok hn g0 hb lk hk => cases e
  | grid hx hy ok hn g0 l0 hb lk hk hc tc oc nc hr tr or nr hs ts lsp lcs lrs => cases e
theorem BoxAt.pictureO (h : BoxAt bc S K H b) {a d : Int} (e : b.own = .picture a d) : ∃ dx y, H b.x = some (.ins (bc .picture) dx [("name", .str (sO b.nm)), ("across", .int a), ("down", .int d), ("style", .ref y)]) ∧ 1 ≤ a ∧ 1 ≤ d := by
  cases h with
  | words hx hy ok hn ht => cases e
  | picture hx hy ok hn ha hd => cases e; exact ⟨_, _, hx, ha, hd⟩
  | row hx hy ok hn g0 l0 hb lk hk => cases e
  | pile hx hy ok hn g0 hb lk hk => cases e
  | grid hx hy ok hn g0 l0 hb lk hk hc tc oc nc hr tr or nr hs ts lsp lcs lrs => cases e
end
/-- how many lines are begun anew -/
def cntW (w : Nat) : List (List Nat) → Option Nat → Nat
  | [], _ => 0
  | y :: ys, none => cntW w ys (some y.length)
  | y :: ys, some u => if u + 1 + y.length > w then 1 + cntW w ys (some y.length) else cntW w ys (some (u + 1 + y.length))
def usedW (l : List Nat) : Option Nat := if l.isEmpty then none else some l.length
theorem lns_cnt (w : Nat) : ∀ (ws : List (List Nat)) (line : List Nat), (∀ x ∈ ws, 0 < x.length) → (lnsM w ws line).length = 1 + cntW w ws (usedW line)
  | [], line, _ => rfl
  | y :: ys, line, h => by
    have hy := h y List.mem_cons_self
    have ht : ∀ x ∈ ys, 0 < x.length := fun x m => h x (List.mem_cons_of_mem _ m)
    have ey : usedW y = some y.length := by
      unfold usedW
      rw [if_neg]
      intro e
      rw [List.isEmpty_iff] at e
      rw [e] at hy
      cases hy
    show (if line.isEmpty = true then lnsM w ys y else if line.length + 1 + y.length ≤ w then lnsM w ys (line ++ 32 :: y) else line :: lnsM w ys y).length = _
    cases e : line.isEmpty with
    | true =>
      rw [if_pos rfl, lns_cnt w ys y ht, ey]
      unfold usedW
      rw [e]; rfl
    | false =>
      have eu : usedW line = some line.length := by unfold usedW; rw [e]; rfl
      rw [if_neg (by decide), eu]
      have e2 : usedW (line ++ 32 :: y) = some (line.length + 1 + y.length) := by
        unfold usedW
        rw [if_neg (by simp), List.length_append, List.length_cons]
        congr 1; omega
      show _ = 1 + (if line.length + 1 + y.length > w then 1 + cntW w ys (some y.length) else cntW w ys (some (line.length + 1 + y.length)))
      by_cases q : line.length + 1 + y.length ≤ w
      · rw [if_pos q, if_neg (by omega), lns_cnt w ys _ ht, e2]
      · rw [if_neg q, if_pos (by omega), List.length_cons, lns_cnt w ys y ht, ey]; omega
def lineN (w : Nat) (x : List Nat) : Nat := ((cut 10 x).map fun p => 1 + cntW w (wordsL p) none).sum
theorem wrap_cnt (w : Nat) (x : List Nat) : (wrapL w x).length = lineN w x := by
  unfold wrapL lineN
  have : ∀ l : List (List Nat), (l.flatMap (linesL w)).length = (l.map fun p => 1 + cntW w (wordsL p) none).sum := fun l => by
    induction l with
    | nil => rfl
    | cons p l ih =>
      rw [List.flatMap_cons, List.length_append, ih, List.map_cons, List.sum_cons]
      rw [show (linesL w p).length = 1 + cntW w (wordsL p) none from lns_cnt w _ [] fun x m => words_pos m]
  exact this _
end My
namespace My
open PySem PySem.Spec PyProof.Rows L2
/-- feeds become blanks -/
def blankL (x : List Nat) : List Nat := TL.joinL [32] (cut 10 x)
theorem replace_feed (x : List Nat) : Txt.replace (sO x) "\n" " " = sO (blankL x) := by
  have h := StrLaws.replace_one (sO x) " " 10
  have e1 : (⟨#[10]⟩ : Str) = "\n" := by decide +kernel
  have e2 : (" " : Str) = sO [32] := by decide +kernel
  rw [split_cut (by decide), e2, ← TL.join_eq, join_sO] at h
  rw [← e1, e2]
  exact h
theorem blankL_len (x : List Nat) : (blankL x).length ≤ 2 * x.length := by
  unfold blankL
  rw [joinL_len]
  have h1 := cut_sum 10 x
  have h2 := cut_len 10 x
  omega
end My
namespace My
open PySem PySem.Spec PyProof.Rows L2
theorem okL_mk {K : PySem.W.Frag} {H : Hp} {w h lw lh mw mh g s r st : V} (h0 : SzAt H w) (h1 : SzAt H h) (h2 : BdAt lw) (h3 : BdAt lh) (h4 : BdAt mw) (h5 : BdAt mh) (h6 : CtAt g) (h7 : CtAt s) (h8 : RmAt K H r) (h9 : StAt st) : OkL K H [w, h, lw, lh, mw, mh, g, s, r, st] :=
  ⟨rfl, fun i v e => by
    match i, e with
    | 0, e => cases e; exact h0
    | 1, e => cases e; exact h1
    | 2, e => cases e; exact h2
    | 3, e => cases e; exact h3
    | 4, e => cases e; exact h4
    | 5, e => cases e; exact h5
    | 6, e => cases e; exact h6
    | 7, e => cases e; exact h7
    | 8, e => cases e; exact h8
    | 9, e => cases e; exact h9
    | n + 10, e => cases e⟩
theorem bdNon : BdAt .non := .inl rfl
theorem bdN (n : Nat) : BdAt (.int (n : Int)) := .inr ⟨n, rfl⟩
theorem ctN (n : Nat) : CtAt (.int (n : Int)) := ⟨n, rfl⟩
theorem stNon : StAt .non := .inl rfl
end My
namespace My
open PySem PySem.Spec PyProof.Rows L2
theorem styL_inj {a b : List V} (ha : a.length = 10) (hb : b.length = 10) (h : styL a = styL b) : a = b := by
  have e : ∀ l : List V, l.length = 10 → (styL l).map Prod.snd = l := fun l hl => List.map_snd_zip (by show l.length ≤ 10; omega)
  rw [← e a ha, h, e b hb]
end My

/-! ### trees drawn box by box, with what is told of each -/
namespace My
open PySem PySem.Spec PyProof.Rows L2
/-- an item of a list whose items are all so -/
theorem pickL {P : V → Prop} {xs : List V} {n : Int} (h0 : 0 ≤ n) (h1 : n < (xs.length : Int)) (h : ∀ x ∈ xs, P x) : ∃ x, atI xs n = some x ∧ P x := by
  obtain ⟨j, rfl⟩ := Int.eq_ofNat_of_zero_le h0
  have hj : j < xs.length := by omega
  exact ⟨xs[j], atI_nat (List.getElem?_eq_getElem hj), h _ (List.getElem_mem hj)⟩

theorem styIs_eq {K : PySem.W.Frag} {H : Hp} {S U y dy : Addr} {st st' : List V} (g : H y = some (.ins S dy (styL st))) (l : st.length = 10) (l' : st'.length = 10) (si : StyIs K H S U (.ref y) st') : st' = st := by
  rcases si with ⟨e, _⟩ | ⟨y', dy', e, g'⟩
  · cases e
  · cases e
    rw [g] at g'
    have g' := congrArg (fun o : Option HO => match o with | some (.ins _ _ fs) => fs | _ => []) g'
    have g' : styL st = styL st' := g'
    have e1 : ∀ l : List V, l.length = 10 → (styL l).map Prod.snd = l := fun l hl => List.map_snd_zip (by show l.length ≤ 10; omega)
    rw [← e1 st' l', ← g', e1 st l]
/-- spots in order -/
theorem stB_of {c r : Int} {f : Nat → Option (List V)} {n : Nat} (hs : ∀ i, i < n → spotB c r (f i) = true) (ha : ∀ i j, i < j → j < n → apartO (f j) (f i) = true) : stB c r [] ((List.range n).map f) = true := by
  have key : ∀ d m, m + d = n → stB c r ((List.range m).map f) ((List.range' m d).map f) = true := by
    intro d
    induction d with
    | zero => intro m _; rfl
    | succ d ih =>
      intro m e
      rw [List.range'_succ, List.map_cons]
      show ((spotB c r (f m) && ((List.range m).map f).all (apartO (f m))) && stB c r ((List.range m).map f ++ [f m]) _) = true
      rw [Bool.and_eq_true, Bool.and_eq_true]
      refine ⟨⟨hs m (by omega), ?_⟩, ?_⟩
      · rw [List.all_eq_true]
        intro x mx
        obtain ⟨i, hi, rfl⟩ := List.mem_map.mp mx
        exact ha i m (List.mem_range.mp hi) (by omega)
      · have := ih (m + 1) (by omega)
        rw [List.range_succ, List.map_append] at this
        exact this
  have := key n 0 (by omega)
  rw [← List.range_eq_range'] at this
  exact this
/-- spots one a place, M columns -/
def sqO (M : Int) (i : Nat) : Int × Int × Int × Int := ((i : Int) % M, (i : Int) / M, 1, 1)
theorem sq_ok {M : Int} {n : Nat} (h0 : 1 ≤ M) (h1 : M ≤ 3) : stB M (1 + (n : Int) / M) [] (((List.range n).map (sqO M)).map spO) = true := by
  rw [List.map_map]
  refine stB_of (fun i hi => ?_) (fun i j hij hj => ?_)
  · show (strchB (.int ((i : Int) % M)) (.int 1) M && strchB (.int ((i : Int) / M)) (.int 1) (1 + (n : Int) / M)) = true
    rcases (show M = 1 ∨ M = 2 ∨ M = 3 by omega) with rfl | rfl | rfl <;> (simp only [strchB, Bool.and_eq_true, decide_eq_true_eq]; omega)
  · show apartI _ _ _ _ _ _ _ _ = true
    unfold apartI
    rcases (show M = 1 ∨ M = 2 ∨ M = 3 by omega) with rfl | rfl | rfl <;> (simp only [Bool.or_eq_true, decide_eq_true_eq]; dsimp only [sqO]; omega)
/-- the first so many of three tracks -/
theorem take_tks {H : Hp} {a b c : V} {ta tb tc : Tk} {m : Nat} (ha : TkAt H a ta) (hb : TkAt H b tb) (hc : TkAt H c tc) (oa : ta.ok) (ob : tb.ok) (oc : tc.ok) (h1 : 1 ≤ m) (h2 : m ≤ 3) :
    ∃ ts : List Tk, TksAt H ([a, b, c].take m) ts ∧ (∀ t ∈ ts, t.ok) ∧ ts.length = m := by
  refine ⟨[ta, tb, tc].take m, ⟨by rw [List.length_take, List.length_take]; rfl, fun i v t e1 e2 => ?_⟩, fun t mt => ?_, by rw [List.length_take]; show min m 3 = m; omega⟩
  · rw [List.getElem?_take] at e1 e2
    split at e1
    · rename_i hi
      rw [if_pos hi] at e2
      match i, e1, e2 with
      | 0, e1, e2 => cases e1; cases e2; exact ha
      | 1, e1, e2 => cases e1; cases e2; exact hb
      | 2, e1, e2 => cases e1; cases e2; exact hc
      | n + 3, e1, _ => cases e1
    · cases e1
  · have := List.mem_of_mem_take mt
    simp only [List.mem_cons, List.not_mem_nil, or_false] at this
    rcases this with rfl | rfl | rfl
    · exact oa
    · exact ob
    · exact oc
end My
namespace My
open PySem PySem.Spec PyProof.Rows L2
/-! #### all boxes of a tree, each with its holder's name -/
mutual
def At.subs : At → V → List (At × V)
  | .mk x n s o ks, h => (.mk x n s o ks, h) :: subsL ks (.str (sO n))
def subsL : List At → V → List (At × V)
  | [], _ => []
  | k :: ks, h => k.subs h ++ subsL ks h
end
theorem At.subs_eq (t : At) (h : V) : t.subs h = (t, h) :: subsL t.kids (.str (sO t.nm)) := by cases t; rw [At.subs]; rfl
theorem subsL_app : ∀ (a b : List At) (h : V), subsL (a ++ b) h = subsL a h ++ subsL b h
  | [], b, h => by rw [List.nil_append, subsL, List.nil_append]
  | k :: a, b, h => by rw [List.cons_append, subsL, subsL, subsL_app a b h, List.append_assoc]
theorem allL_app : ∀ (a b : List At), allL (a ++ b) = allL a ++ allL b
  | [], b => by rw [List.nil_append, allL, List.nil_append]
  | k :: a, b => by rw [List.cons_append, allL, allL, allL_app a b, List.append_assoc]
mutual
theorem subs_pre : ∀ (t : At) (h : V), (t.subs h).map (fun p => (p.1.x, p.1.nm, p.2)) = t.pre h
  | .mk x n s o ks, h => by rw [At.subs, At.pre, List.map_cons, subsL_pre ks]; rfl
theorem subsL_pre : ∀ (ks : List At) (h : V), (subsL ks h).map (fun p => (p.1.x, p.1.nm, p.2)) = preL ks h
  | [], h => by rw [subsL, preL]; rfl
  | k :: ks, h => by rw [subsL, preL, List.map_append, subs_pre k, subsL_pre ks]
end
mutual
theorem subs_all : ∀ (t : At) (h : V), (t.subs h).map Prod.fst = t.all
  | .mk x n s o ks, h => by rw [At.subs, At.all, List.map_cons, subsL_all ks]
theorem subsL_all : ∀ (ks : List At) (h : V), (subsL ks h).map Prod.fst = allL ks
  | [], h => by rw [subsL, allL]; rfl
  | k :: ks, h => by rw [subsL, allL, List.map_append, subs_all k, subsL_all ks]
end
mutual
theorem depth_all : ∀ t : At, t.depth ≤ t.all.length
  | .mk x n s o ks => by
    have := depthL_all ks
    rw [At.depth, At.all, List.length_cons]; omega
theorem depthL_all : ∀ ks : List At, depthL ks ≤ (allL ks).length
  | [] => by rw [depthL, allL]; exact Nat.le_refl _
  | k :: ks => by
    have h1 := depth_all k
    have h2 := depthL_all ks
    rw [depthL, allL, List.length_append]; omega
end
theorem pre_nms (t : At) (h : V) : (t.pre h).map (·.2.1) = t.all.map At.nm := by
  rw [← subs_pre, ← subs_all t h, List.map_map, List.map_map]; rfl
theorem allL_perm : ∀ ks : List At, (allL ks).Perm (ks ++ ks.flatMap fun k => allL k.kids)
  | [] => by rw [allL]; exact .nil
  | k :: ks => by
    rw [allL, k.all_eq, List.cons_append, List.cons_append, List.flatMap_cons]
    refine .cons _ ?_
    have h := allL_perm ks
    refine (List.Perm.append_left _ h).trans ?_
    rw [← List.append_assoc, ← List.append_assoc]
    exact List.Perm.append_right _ List.perm_append_comm
theorem len_allL (ks : List At) : ks.length ≤ (allL ks).length := by
  have := (allL_perm ks).length_eq
  rw [List.length_append] at this
  omega
/-! #### what is told of a box -/
def kdW : Kd → String
  | .words => "words"
  | .picture => "picture"
  | .row => "row"
  | .pile => "pile"
  | .grid => "grid"
/-- how it stands its boxes, whether it turns, where it says so -/
def OwnIs : Own → String → Bool → Prop
  | .row tn _ _ _ sd, ow, t => tn = t ∧ sd = ow
  | .pile _ _ sd, ow, _ => sd = ow
  | .grid _ _ _ _ _ sd, ow, _ => sd = ow
  | _, _, _ => True
def NoB (xs : List V) : Prop := ∀ b, xs[2]? ≠ some (V.bl b)
theorem noB_refs (ks : List At) : NoB (refs ks) := fun b h => by
  unfold refs at h
  rw [List.getElem?_map] at h
  cases e : ks[2]? with
  | none => rw [e] at h; cases h
  | some k => rw [e] at h; cases h
theorem noB_strs {α : Type} (f : α → List Nat) (ls : List α) : NoB (ls.map fun l => V.str (sO (f l))) := fun b h => by
  rw [List.getElem?_map] at h
  cases e : ls[2]? with
  | none => rw [e] at h; cases h
  | some k => rw [e] at h; cases h
theorem noB_st {K : PySem.W.Frag} {H : Hp} {st : List V} (h : OkL K H st) : NoB st := fun b e => by
  rcases (show BdAt (.bl b) from h.2 2 _ e) with q | ⟨n, q⟩ <;> cases q
theorem noB_ne {H : Hp} {a f : Addr} {xs r : List V} {x0 x1 : V} {t : Bool} (ha : H a = some (.lst xs)) (n : NoB xs) (hf : H f = some (.lst (x0 :: x1 :: .bl t :: r))) : a ≠ f := by
  rintro rfl
  rw [ha] at hf
  cases hf
  exact n t rfl
structure FactAt (H0 H : Hp) (kvs : List (Key × V)) (b : At) (hv : V) (f l q : Addr) (ow : String) (tn : Bool) : Prop where
  v : valV kvs (keyS b.nm) = some (.ref f)
  z : H0 f = none
  f : H f = some (.lst [sX (kdW b.own.kd), sX ow, .bl tn, .ref l, .ref q, hv])
  l : H l = some (.lst b.st)
  n : NoB b.st
  q : H q = some (.lst (b.kids.map fun k => V.str (sO k.nm)))
  o : OwnIs b.own ow tn
def Fact (H0 H : Hp) (kvs : List (Key × V)) (b : At) (hv : V) : Prop := ∃ f l q ow tn, FactAt H0 H kvs b hv f l q ow tn
def InjK (kvs : List (Key × V)) : Prop := ∀ n m a, valV kvs (keyS n) = some (.ref a) → valV kvs (keyS m) = some (.ref a) → n = m
section
variable {H0 H H' : Hp} {kvs : List (Key × V)} {b : At} {hv : V} {f l q : Addr} {ow : String} {tn : Bool}
theorem Fact.same (h : Fact H0 H kvs b hv) (s : Same H H') : Fact H0 H' kvs b hv := let ⟨f, l, q, ow, tn, a⟩ := h; ⟨f, l, q, ow, tn, a.v, a.z, s _ _ a.f, s _ _ a.l, a.n, s _ _ a.q, a.o⟩
/-- a dict is changed: what it tells of the box stays -/
theorem Fact.put {d : Addr} {us kvs' : List (Key × V)} (h : Fact H0 H kvs b hv) (hd : H d = some (.dK us)) (s : But d H H') (e : valV kvs' (keyS b.nm) = valV kvs (keyS b.nm)) : Fact H0 H' kvs' b hv := by
  obtain ⟨f, l, q, ow, tn, a⟩ := h
  have n : ∀ {x : Addr} {xs : List V}, H x = some (.lst xs) → x ≠ d := fun hx z => by rw [z, hd] at hx; cases hx
  exact ⟨f, l, q, ow, tn, e.trans a.v, a.z, s.app (n a.f) a.f, s.app (n a.l) a.l, a.n, s.app (n a.q) a.q, a.o⟩
/-- what is told of another box is changed -/
theorem Fact.but {kn : List Nat} {g : Addr} {x0 x1 : V} {t : Bool} {r : List V} (h : Fact H0 H kvs b hv) (inj : InjK kvs) (hg : valV kvs (keyS kn) = some (.ref g)) (gg : H g = some (.lst (x0 :: x1 :: .bl t :: r))) (s : But g H H') (ne : b.nm ≠ kn) : Fact H0 H' kvs b hv := by
  obtain ⟨f, l, q, ow, tn, a⟩ := h
  have nf : f ≠ g := fun z => ne (inj _ _ g (z ▸ a.v) hg)
  exact ⟨f, l, q, ow, tn, a.v, a.z, s.app nf a.f, s.app (noB_ne a.l a.n gg) a.l, a.n, s.app (noB_ne a.q (noB_strs _ _) gg) a.q, a.o⟩
theorem FactAt.set {w : V} (a : FactAt H0 H kvs b hv f l q ow tn) (s : But f H H') (g : H' f = some (.lst [sX (kdW b.own.kd), sX ow, .bl tn, .ref l, .ref q, w])) : Fact H0 H' kvs b w :=
  ⟨f, l, q, ow, tn, a.v, a.z, g, s.app (noB_ne a.l a.n a.f) a.l, a.n, s.app (noB_ne a.q (noB_strs _ _) a.f) a.q, a.o⟩
end
end My
namespace My
open PySem PySem.Spec PyProof.Rows L2
theorem SzIn.tt {names : List (List Nat)} {H : Hp} {p : Bool} {v : V} (h : SzIn names H p v) : SzIn names H true v := by
  rcases h with h | h | ⟨_, a, n, e1, g⟩ | h
  · exact .inl h
  · exact .inr (.inl h)
  · exact .inr (.inr (.inl ⟨rfl, a, n, e1, g⟩))
  · exact .inr (.inr (.inr h))
theorem SzIn.nms {names names' : List (List Nat)} {H : Hp} {p : Bool} {v : V} (h : SzIn names H p v) (q : ∀ l ∈ names, l ∈ names') : SzIn names' H p v := by
  rcases h with h | h | h | ⟨a, l, sd, m, e1, g, z⟩
  · exact .inl h
  · exact .inr (.inl h)
  · exact .inr (.inr (.inl h))
  · exact .inr (.inr (.inr ⟨a, l, sd, m, e1, g, q l z⟩))
theorem mem_subsL {q : At × V} {h : V} : ∀ {ks : List At}, q ∈ subsL ks h → ∃ k ∈ ks, q ∈ k.subs h
  | [], m => by rw [subsL] at m; cases m
  | k :: ks, m => by
    rw [subsL] at m
    rcases List.mem_append.mp m with m | m
    · exact ⟨k, List.mem_cons_self, m⟩
    · obtain ⟨j, mj, z⟩ := mem_subsL m
      exact ⟨j, List.mem_cons_of_mem _ mj, z⟩
theorem subs_mem {q : At × V} {h : V} {k : At} (z : q ∈ k.subs h) : ∀ {ks : List At}, k ∈ ks → q ∈ subsL ks h
  | j :: ks, m => by
    rw [subsL]
    rcases List.mem_cons.mp m with rfl | m
    · exact List.mem_append_left _ z
    · exact List.mem_append_right _ (subs_mem z m)
theorem subs_in {q : At × V} {ks : List At} {h : V} (m : q ∈ subsL ks h) : q.1 ∈ allL ks := by
  rw [← subsL_all ks h]; exact List.mem_map_of_mem m
theorem kid_in {k : At} {ks : List At} (m : k ∈ ks) : k ∈ allL ks := (allL_perm ks).mem_iff.mpr (List.mem_append_left _ m)
theorem split_ok {fr ks : List At} (nd : ((allL (fr ++ ks)).map At.nm).Nodup) : (ks.map At.nm).Nodup ∧ (∀ b ∈ allL fr, ∀ k ∈ ks, b.nm ≠ k.nm) ∧ ∀ k' ∈ ks, ∀ b ∈ allL k'.kids, ∀ k ∈ ks, b.nm ≠ k.nm := by
  rw [allL_app, List.map_append, List.nodup_append] at nd
  obtain ⟨_, n2, dj⟩ := nd
  have n3 := ((allL_perm ks).map At.nm).nodup_iff.mp n2
  rw [List.map_append, List.nodup_append] at n3
  refine ⟨n3.1, fun b mb k mk => dj _ (List.mem_map_of_mem mb) _ (List.mem_map_of_mem (kid_in mk)), fun k' mk' b mb k mk => ?_⟩
  exact (n3.2.2 _ (List.mem_map_of_mem mk) _ (List.mem_map_of_mem (List.mem_flatMap.mpr ⟨k', mk', mb⟩))).symm
theorem ite_step {i j : Nat} {a b : V} (e : i ≠ j) : (if i < j + 1 then a else b) = if i < j then a else b := by
  by_cases h : i < j
  · rw [if_pos h, if_pos (by omega)]
  · rw [if_neg h, if_neg (by omega)]
end My

/-! ### what is read; texts in order -/
namespace My
open PySem PySem.Spec PyProof.Rows L2
def leS (a b : Str) : Prop := ¬ b.cps.toList < a.cps.toList
theorem leS_trans {a b c : Str} (h : leS a b) (k : leS b c) : leS a c := by
  have h : a.cps.toList ≤ b.cps.toList := h
  have k : b.cps.toList ≤ c.cps.toList := k
  exact List.le_trans h k
theorem leS_anti {a b : Str} (h : leS a b) (k : leS b a) : a = b := by
  have h : a.cps.toList ≤ b.cps.toList := h
  have k : b.cps.toList ≤ a.cps.toList := k
  have e := List.le_antisymm h k
  cases a; cases b
  congr 1
  exact Array.toList_inj.mp e
theorem rising_pw : ∀ (p : Str) (l : List Str), risingS p l = true → (p :: l).Pairwise leS
  | p, [], _ => List.pairwise_singleton _ _
  | p, x :: r, h => by
    have h : (!ltCps x.cps.toList p.cps.toList && risingS x r) = true := h
    rw [Bool.and_eq_true] at h
    have h2 := rising_pw x r h.2
    have hp : leS p x := fun z => by
      have h1 := h.1
      rw [ltCps_eq, decide_eq_true z] at h1
      cases h1
    refine List.pairwise_cons.mpr ⟨fun y my => ?_, h2⟩
    rcases List.mem_cons.mp my with rfl | my
    · exact hp
    · exact leS_trans hp ((List.pairwise_cons.mp h2).1 y my)
theorem sorted_pw : ∀ (l : List Str), sortedS l = true → l.Pairwise leS
  | [], _ => .nil
  | x :: r, h => rising_pw x r h
theorem sorted_eq {a b : List Str} (p : a.Perm b) (ha : sortedS a = true) (hb : sortedS b = true) : a = b :=
  List.Perm.eq_of_pairwise (le := leS) (fun x y _ _ h k => leS_anti h k) (sorted_pw a ha) (sorted_pw b hb) p
theorem strs_sO (ys : List Str) : ys.map V.str = (ys.map fun y => y.cps.toList).map fun l => V.str (sO l) := by
  rw [List.map_map]
  exact List.map_congr_left fun y _ => by show V.str y = V.str (sO y.cps.toList); rw [sO_tl]
/-- list += list -/
def rExtA : R2 := fun x y H Q => ∃ l b xs zs, x = .ref l ∧ y = .ref b ∧ H l = some (.lst xs) ∧ H b = some (.lst zs) ∧ xs.length + zs.length ≤ sizeLine ∧ Set1 H l (.lst (xs ++ zs)) (Q (.ref l))
theorem ip_extA {X : Cx} : PIp X .Add rExtA := fun pins s σ H x y v u Q I rx ry ⟨l, b, xs, zs, e1, e2, h1, h2, z, q⟩ => iop_ext pins s σ H x y v u Q I rx ry ⟨l, b, xs, zs, e1, e2, h1, h2, z, q.go⟩
/-- the names that a number reads -/
def isPt (H : Hp) (v : V) : Prop := ∃ (a : Addr) (x y : V), v = .ref a ∧ H a = some (.tup [x, y])
def words9 : List String := ["least", "wish", "wide", "flow", "rise", "tall", "base", "left", "top"]
def placed4 : List String := ["wide", "tall", "left", "top"]
/-- a told size, and whether it is a part -/
def SzW (H : Hp) (v : V) (p : Bool) : Prop := (v = .non ∧ p = false) ∨ (∃ n : Nat, v = .int (n : Int) ∧ p = false) ∨ (∃ (a : Addr) (n : Nat), v = .ref a ∧ H a = some (.tup [sX "part", .int (n : Int)]) ∧ p = true) ∨ ∃ (a : Addr) (l : List Nat) (sd : String) (m : Int), v = .ref a ∧ H a = some (.tup [sX "as", .str (sO l), sX sd, .int m]) ∧ p = false
theorem SzIn.szw {names : List (List Nat)} {H : Hp} {p : Bool} {v : V} (h : SzIn names H p v) : ∃ q, SzW H v q ∧ (p = false → q = false) := by
  rcases h with h | ⟨n, h⟩ | ⟨e, a, n, e1, g⟩ | ⟨a, l, sd, m, e1, g, _⟩
  · exact ⟨false, .inl ⟨h, rfl⟩, fun _ => rfl⟩
  · exact ⟨false, .inr (.inl ⟨n, h, rfl⟩), fun _ => rfl⟩
  · exact ⟨true, .inr (.inr (.inl ⟨a, n, e1, g, rfl⟩)), fun z => by rw [e] at z; cases z⟩
  · exact ⟨false, .inr (.inr (.inr ⟨a, l, sd, m, e1, g, rfl⟩)), fun _ => rfl⟩
theorem SzW.pt {H : Hp} {v : V} {p : Bool} (h : SzW H v p) : PtAt 2 H v p := by
  rcases h with ⟨rfl, e⟩ | ⟨n, rfl, e⟩ | ⟨a, n, e1, g, rfl⟩ | ⟨a, l, sd, m, e1, g, rfl⟩
  · exact .inl ⟨_, .non, by decide, e⟩
  · exact .inl ⟨_, .int _, by decide, e⟩
  · exact .inr ⟨a, _, e1, g, rfl⟩
  · exact .inr ⟨a, _, e1, g, rfl⟩
theorem SzW.ks {H H' : Hp} {v : V} {p : Bool} (h : SzW H v p) (k : KeepS H H') : SzW H' v p := by
  rcases h with h | h | ⟨a, n, e1, g, e⟩ | ⟨a, l, sd, m, e1, g, e⟩
  · exact .inl h
  · exact .inr (.inl h)
  · exact .inr (.inr (.inl ⟨a, n, e1, k.tup g, e⟩))
  · exact .inr (.inr (.inr ⟨a, l, sd, m, e1, k.tup g, e⟩))
def partW (wd : String) (pw ph : Bool) : Bool := if wd = "wish" then pw else if wd = "rise" then ph else false
def placedL (wd : String) (nm : List Nat) (ho : Option (List Nat)) (sib : Option (List (List Nat))) : List (List Nat) :=
  match ho with
  | none => if wd = "wide" ∨ wd = "tall" then [nm, []] else [nm]
  | some h => nm :: h :: (match sib with | some l => l.filter fun z => decide (z ≠ nm) | none => [])
def readL (wd : String) (pw ph : Bool) (nm : List Nat) (kids : List (List Nat)) (ho : Option (List Nat)) (sib : Option (List (List Nat))) : List (List Nat) :=
  if wd = "flow" then nm :: kids
  else if partW wd pw ph = true then nm :: ho.toList
  else if wd ∉ placed4 then [nm]
  else placedL wd nm ho sib
theorem readL_placed {wd : String} {pw ph : Bool} {nm : List Nat} {kids : List (List Nat)} {ho : Option (List Nat)} {sib : Option (List (List Nat))} (h1 : wd ≠ "flow") (h2 : partW wd pw ph = false) (h3 : wd ∈ placed4) : readL wd pw ph nm kids ho sib = placedL wd nm ho sib := by
  unfold readL
  rw [if_neg h1, if_neg (by rw [h2]; decide), if_neg (fun z => z h3)]
/-- the holder: none, or a box of the tree, and what stands in it where it is a row or a pile -/
def HoIs (bc : Kd → Addr) (S : Addr) (K : PySem.W.Frag) (H : Hp) (t : At) (hv : V) (ho : Option (List Nat)) (sib : Option (List (List Nat))) : Prop := (hv = .non ∧ ho = none ∧ sib = none) ∨ ∃ (a : At) (hw : V), hv = .str (sO a.nm) ∧ (a.x, a.nm, hw) ∈ t.pre .non ∧ BoxAt bc S K H a ∧ ho = some a.nm ∧ sib = if a.own.kd = .row ∨ a.own.kd = .pile then some (a.kids.map At.nm) else none
theorem HoIs.ks {bc : Kd → Addr} {S : Addr} {K : PySem.W.Frag} {H H' : Hp} {t : At} {hv : V} {ho : Option (List Nat)} {sib : Option (List (List Nat))} (h : HoIs bc S K H t hv ho sib) (k : KeepS H H') : HoIs bc S K H' t hv ho sib :=
  h.imp id fun ⟨a, hw, e, m, b, r⟩ => ⟨a, hw, e, m, b.ks k, r⟩
theorem BoxAt.inner {bc : Kd → Addr} {S : Addr} {K : PySem.W.Frag} {H : Hp} {b : At} (h : BoxAt bc S K H b) (k : b.own.kd = .row ∨ b.own.kd = .pile) : ∃ (dx q : Addr) (fs : List (Str × V)), H b.x = some (.ins (bc b.own.kd) dx fs) ∧ fs.lookup (Str.ofString "boxes") = some (.ref q) ∧ H q = some (.tup (refs b.kids)) := by
  cases h with
  | words hx hy ok hn ht => rcases k with k | k <;> cases k
  | picture hx hy ok hn ha hd => rcases k with k | k <;> cases k
  | row hx hy ok hn g0 l0 hb lk hk => exact ⟨_, _, _, hx, rfl, hb⟩
  | pile hx hy ok hn g0 hb lk hk => exact ⟨_, _, _, hx, rfl, hb⟩
  | grid hx hy ok hn g0 l0 hb lk hk hc tc oc nc hr tr or nr hs ts lsp lcs lrs => rcases k with k | k <;> cases k
theorem str_dec (a b : List Nat) : decide (V.str (sO a) = V.str (sO b)) = decide (a = b) := decide_eq_decide.mpr ⟨fun h => sO_inj (V.str.inj h), fun h => by rw [h]⟩
/-- what the law asks -/
def dueH (wd : String) (nm : List Nat) (ho : Option (List Nat × Bool × List (List Nat))) : List (List Nat) :=
  match ho with
  | none => if wd = "wide" ∨ wd = "tall" then [nm, []] else [nm]
  | some (h, g, ks) => if g = true then [nm, h] else h :: ks
def dueP (wd : String) (nm : List Nat) (kids : List (List Nat)) (ho : Option (List Nat × Bool × List (List Nat))) : List (List Nat) :=
  if wd = "flow" then nm :: kids
  else if wd ∉ placed4 then [nm]
  else dueH wd nm ho
def dueL (wd : String) (pw ph : Bool) (nm : List Nat) (kids : List (List Nat)) (ho : Option (List Nat × Bool × List (List Nat))) : List (List Nat) :=
  if partW wd pw ph = true then nm :: (ho.map (·.1)).toList
  else dueP wd nm kids ho
/-- the holder by what is told of it -/
def HoFa (H0 H : Hp) (kvs : List (Key × V)) (hv : V) (ho : Option (List Nat × Bool × List (List Nat))) : Prop := (hv = .non ∧ ho = none) ∨ ∃ (a : At) (hw : V), hv = .str (sO a.nm) ∧ Fact H0 H kvs a hw ∧ ho = some (a.nm, decide (a.own.kd = .grid), a.kids.map At.nm)
def toldV (wd : String) (v w : V) : V := if wd = "wish" then v else if wd = "rise" then w else .non
theorem told_szw {H : Hp} {wd : String} {v w : V} {pw ph : Bool} (h : SzW H v pw) (k : SzW H w ph) : SzW H (toldV wd v w) (partW wd pw ph) := by
  unfold toldV partW
  by_cases e1 : wd = "wish"
  · rw [if_pos e1, if_pos e1]; exact h
  · rw [if_neg e1, if_neg e1]
    by_cases e2 : wd = "rise"
    · rw [if_pos e2, if_pos e2]; exact k
    · rw [if_neg e2, if_neg e2]; exact .inl ⟨rfl, rfl⟩
/-- the two tellings of a holder -/
def HoRel (nm : List Nat) : Option (List Nat) → Option (List (List Nat)) → Option (List Nat × Bool × List (List Nat)) → Prop
  | none, none, none => True
  | some h, sib, some (h', g, ks) => h = h' ∧ (if g = true then sib = none else sib = some ks ∧ nm ∈ ks ∧ ks.Nodup)
  | _, _, _ => False
theorem read_due {wd : String} {pw ph : Bool} {nm : List Nat} {kids : List (List Nat)} {ho : Option (List Nat)} {sib : Option (List (List Nat))} {h2 : Option (List Nat × Bool × List (List Nat))} (r : HoRel nm ho sib h2) : (readL wd pw ph nm kids ho sib).Perm (dueL wd pw ph nm kids h2) := by
  unfold readL dueL dueP
  by_cases ef : wd = "flow"
  · rw [if_pos ef, if_pos ef, if_neg (by rw [ef]; unfold partW; rw [if_neg (by decide), if_neg (by decide)]; decide)]
  rw [if_neg ef, if_neg ef]
  have e1 : ho.toList = (h2.map (·.1)).toList := by
    match ho, sib, h2, r with
    | none, none, none, _ => rfl
    | some h, sib, some (h', g, ks), r => rw [r.1]; rfl
  by_cases ep : partW wd pw ph = true
  · rw [if_pos ep, if_pos ep, e1]
  rw [if_neg ep, if_neg ep]
  by_cases e4 : wd ∈ placed4
  rotate_left
  · rw [if_pos e4, if_pos e4]
  rw [if_neg (fun z => z e4), if_neg (fun z => z e4)]
  match ho, sib, h2, r with
  | none, none, none, _ => exact .refl _
  | some h, sib, some (h', g, ks), r =>
    obtain ⟨rfl, r⟩ := r
    cases g with
    | true =>
      have r : sib = none := r
      subst r
      exact .refl _
    | false =>
      obtain ⟨rfl, m, nd⟩ : sib = some ks ∧ nm ∈ ks ∧ ks.Nodup := r
      show (nm :: h :: ks.filter fun z => decide (z ≠ nm)).Perm (h :: ks)
      refine (List.Perm.swap h nm _).trans (.cons _ ?_)
      have h1 := List.perm_cons_erase m
      rw [nd.erase_eq_filter] at h1
      refine List.Perm.trans ?_ h1.symm
      refine .cons _ ?_
      rw [show (fun z => decide (z ≠ nm)) = (fun z : List Nat => z != nm) from funext fun z => by rw [bne, Bool.eq_iff_iff]; simp]
mutual
theorem sub_box {bc : Kd → Addr} {S : Addr} {K : PySem.W.Frag} {H : Hp} : ∀ (t : At), BoxAt bc S K H t → ∀ (h : V) (q : At × V), q ∈ t.subs h → BoxAt bc S K H q.1
  | .mk x n s o ks, hb, h, q, m => by
    rw [At.subs] at m
    rcases List.mem_cons.mp m with rfl | m
    · exact hb
    · exact subL_box ks (fun k mk => hb.kid k mk) _ q m
theorem subL_box {bc : Kd → Addr} {S : Addr} {K : PySem.W.Frag} {H : Hp} : ∀ (ks : List At), (∀ k ∈ ks, BoxAt bc S K H k) → ∀ (h : V) (q : At × V), q ∈ subsL ks h → BoxAt bc S K H q.1
  | [], _, h, q, m => by rw [subsL] at m; cases m
  | k :: ks, hb, h, q, m => by
    rw [subsL] at m
    rcases List.mem_append.mp m with m | m
    · exact sub_box k (hb k List.mem_cons_self) h q m
    · exact subL_box ks (fun j mj => hb j (List.mem_cons_of_mem _ mj)) h q m
end
mutual
theorem sub_hold : ∀ (t : At) (h : V) (q : At × V), q ∈ t.subs h → q = (t, h) ∨ ∃ r ∈ t.subs h, q.2 = .str (sO r.1.nm) ∧ q.1 ∈ r.1.kids
  | .mk x n s o ks, h, q, m => by
    rw [At.subs] at m
    rcases List.mem_cons.mp m with rfl | m
    · exact .inl rfl
    · rcases subL_hold ks (.str (sO n)) q m with ⟨mk, e⟩ | ⟨r, mr, e⟩
      · exact .inr ⟨(.mk x n s o ks, h), by rw [At.subs]; exact List.mem_cons_self, e, mk⟩
      · exact .inr ⟨r, by rw [At.subs]; exact List.mem_cons_of_mem _ mr, e⟩
theorem subL_hold : ∀ (ks : List At) (h : V) (q : At × V), q ∈ subsL ks h → (q.1 ∈ ks ∧ q.2 = h) ∨ ∃ r ∈ subsL ks h, q.2 = .str (sO r.1.nm) ∧ q.1 ∈ r.1.kids
  | [], h, q, m => by rw [subsL] at m; cases m
  | k :: ks, h, q, m => by
    rw [subsL] at m
    rcases List.mem_append.mp m with m | m
    · rcases sub_hold k h q m with rfl | ⟨r, mr, e⟩
      · exact .inl ⟨List.mem_cons_self, rfl⟩
      · exact .inr ⟨r, by rw [subsL]; exact List.mem_append_left _ mr, e⟩
    · rcases subL_hold ks h q m with ⟨mk, e⟩ | ⟨r, mr, e⟩
      · exact .inl ⟨List.mem_cons_of_mem _ mk, e⟩
      · exact .inr ⟨r, by rw [subsL]; exact List.mem_append_right _ mr, e⟩
end
mutual
theorem sub_len : ∀ (t : At) (h : V) (q : At × V), q ∈ t.subs h → q.1.all.length ≤ t.all.length
  | .mk x n s o ks, h, q, m => by
    rw [At.subs] at m
    rcases List.mem_cons.mp m with rfl | m
    · exact Nat.le_refl _
    · have := subL_len ks (.str (sO n)) q m
      rw [At.all, List.length_cons]; omega
theorem subL_len : ∀ (ks : List At) (h : V) (q : At × V), q ∈ subsL ks h → q.1.all.length ≤ (allL ks).length
  | [], h, q, m => by rw [subsL] at m; cases m
  | k :: ks, h, q, m => by
    rw [subsL] at m
    rw [allL, List.length_append]
    rcases List.mem_append.mp m with m | m
    · have := sub_len k h q m; omega
    · have := subL_len ks h q m; omega
end
theorem kids_len {t : At} {h : V} {q : At × V} (m : q ∈ t.subs h) : q.1.kids.length ≤ t.all.length := by
  have h1 := sub_len t h q m
  have h2 := len_allL q.1.kids
  rw [q.1.all_eq, List.length_cons] at h1
  omega
mutual
theorem sub_nd : ∀ (t : At) (h : V) (q : At × V), q ∈ t.subs h → (t.all.map At.nm).Nodup → (q.1.kids.map At.nm).Nodup
  | .mk x n s o ks, h, q, m, nd => by
    rw [At.all, List.map_cons, List.nodup_cons] at nd
    rw [At.subs] at m
    rcases List.mem_cons.mp m with rfl | m
    · have := (split_ok (fr := []) (ks := ks) nd.2).1
      exact this
    · exact subL_nd ks _ q m nd.2
theorem subL_nd : ∀ (ks : List At) (h : V) (q : At × V), q ∈ subsL ks h → ((allL ks).map At.nm).Nodup → (q.1.kids.map At.nm).Nodup
  | [], h, q, m, _ => by rw [subsL] at m; cases m
  | k :: ks, h, q, m, nd => by
    rw [allL, List.map_append, List.nodup_append] at nd
    rw [subsL] at m
    rcases List.mem_append.mp m with m | m
    · exact sub_nd k h q m nd.1
    · exact subL_nd ks h q m nd.2.1
end
/-- sorted(texts) -/
def rSortA (K : PySem.W.Frag) : List V → Hp → VK → Prop := fun vs H Q => ∃ (a : Addr) (xs : List (List Nat)), vs = [.ref a] ∧ SqL K H a (xs.map fun l => V.str (sO l)) ∧ xs.length < 64 ∧ ∀ (ys : List (List Nat)) (p : Addr) (H' : Hp), ys.Perm xs → sortedS (ys.map sO) = true → Same H H' → H p = none → H' p = some (.lst (ys.map fun l => V.str (sO l))) → Q (.ref p) H'
theorem cr_sortAK {X : Cx} {K : PySem.W.Frag} (h : X.K = K) : CallR X (.builtin "sorted") (rSortA K) := by
  subst h
  refine callR_imp cr_sortedS fun vs H Q ⟨a, xs, e, hs, hl, k⟩ => ⟨a, xs.map sO, e, by rw [List.map_map]; exact hs, by rw [List.length_map]; exact hl, fun ys p pm st hp => ?_⟩
  have ey : ys = (ys.map fun y => y.cps.toList).map sO := by
    rw [List.map_map]
    exact (List.map_id ys).symm.trans (List.map_congr_left fun y _ => by show y = sO y.cps.toList; rw [sO_tl])
  have inj : Function.Injective sO := fun a b h => sO_inj h
  refine k (ys.map fun y => y.cps.toList) p _ ?_ (by rw [← ey]; exact st) (Same.upd0 hp) hp ?_
  · have h1 := pm.map (fun y : Str => y.cps.toList)
    rw [List.map_map] at h1
    rwa [show ((fun y : Str => y.cps.toList) ∘ sO) = id from funext fun l => by show (sO l).cps.toList = l; simp [sO], List.map_id] at h1
  · rw [upd_same, ← strs_sO]
end My

/-! ### what a number needs -/
namespace My
open PySem PySem.Spec PyProof.Rows L2
abbrev Item := List Nat × String
def ItAt (H : Hp) (v : V) (it : Item) : Prop := ∃ p, v = .ref p ∧ H p = some (.tup [.str (sO it.1), sX it.2])
def ItmsAt (H : Hp) (vs : List V) (its : List Item) : Prop := vs.length = its.length ∧ ∀ (i : Nat) (v : V) (it : Item), vs[i]? = some v → its[i]? = some it → ItAt H v it
theorem ItAt.ks {H H' : Hp} {v : V} {it : Item} (h : ItAt H v it) (k : KeepS H H') : ItAt H' v it := let ⟨p, e, g⟩ := h; ⟨p, e, k.tup g⟩
theorem ItmsAt.ks {H H' : Hp} {vs : List V} {its : List Item} (h : ItmsAt H vs its) (k : KeepS H H') : ItmsAt H' vs its := ⟨h.1, fun i v it a b => (h.2 i v it a b).ks k⟩
theorem ItmsAt.nil {H : Hp} : ItmsAt H [] [] := ⟨rfl, fun i v it a => by cases a⟩
theorem ItmsAt.cons {H : Hp} {v : V} {it : Item} {vs : List V} {its : List Item} (h : ItAt H v it) (t : ItmsAt H vs its) : ItmsAt H (v :: vs) (it :: its) := ⟨by rw [List.length_cons, List.length_cons, t.1], fun i w jt a b => by
  match i, a, b with
  | 0, a, b => cases a; cases b; exact h
  | n + 1, a, b => exact t.2 n w jt a b⟩
theorem ItmsAt.app {H : Hp} {vs ws : List V} {es fs : List Item} (h : ItmsAt H vs es) (k : ItmsAt H ws fs) : ItmsAt H (vs ++ ws) (es ++ fs) := ⟨by rw [List.length_append, List.length_append, h.1, k.1], fun i v e a b => by
  by_cases hi : i < vs.length
  · rw [List.getElem?_append_left hi] at a
    rw [List.getElem?_append_left (by rw [← h.1]; exact hi)] at b
    exact h.2 i v e a b
  · rw [List.getElem?_append_right (by omega)] at a
    rw [List.getElem?_append_right (by rw [← h.1]; omega), ← h.1] at b
    exact k.2 _ v e a b⟩
theorem ItAt.of {H : Hp} {p : Addr} {l : List Nat} {w : String} (g : H p = some (.tup [.str (sO l), sX w])) : ItAt H (.ref p) (l, w) := ⟨p, rfl, g⟩
/-- a new list of items -/
def NewIts (H : Hp) (its : List Item) (Q : VK) : Prop := ∀ (p : Addr) (vs : List V) (H' : Hp), Same H H' → H p = none → H' p = some (.lst vs) → ItmsAt H' vs its → Q (.ref p) H'
/-- a told size -/
inductive Sz
  | non
  | cells (n : Nat)
  | part (n : Nat)
  | tie (l : List Nat) (sd : String) (m : Int)
def SzV (H : Hp) (v : V) : Sz → Prop
  | .non => v = .non
  | .cells n => v = .int (n : Int)
  | .part n => ∃ a, v = .ref a ∧ H a = some (.tup [sX "part", .int (n : Int)])
  | .tie l sd m => ∃ a, v = .ref a ∧ H a = some (.tup [sX "as", .str (sO l), sX sd, .int m])
def Sz.isPart : Sz → Bool
  | .part _ => true
  | _ => false
def Sz.isTie : Sz → Bool
  | .tie _ _ _ => true
  | _ => false
def Sz.isNon : Sz → Bool
  | .non => true
  | _ => false
theorem SzV.ks {H H' : Hp} {v : V} {z : Sz} (h : SzV H v z) (k : KeepS H H') : SzV H' v z := by
  cases z with
  | non => exact h
  | cells n => exact h
  | part n => obtain ⟨a, e, g⟩ := h; exact ⟨a, e, k.tup g⟩
  | tie l sd m => obtain ⟨a, e, g⟩ := h; exact ⟨a, e, k.tup g⟩
theorem SzV.pt {H : Hp} {v : V} {z : Sz} (h : SzV H v z) : PtAt 2 H v z.isPart := by
  cases z with
  | non => exact .inl ⟨_, by rw [show v = .non from h]; exact .non, by decide, rfl⟩
  | cells n => exact .inl ⟨_, by rw [show v = .int (n : Int) from h]; exact .int _, by decide, rfl⟩
  | part n => obtain ⟨a, e, g⟩ := h; exact .inr ⟨a, _, e, g, rfl⟩
  | tie l sd m => obtain ⟨a, e, g⟩ := h; exact .inr ⟨a, _, e, g, rfl⟩
theorem SzV.ti {H : Hp} {v : V} {z : Sz} (h : SzV H v z) : PtAt 4 H v z.isTie := by
  cases z with
  | non => exact .inl ⟨_, by rw [show v = .non from h]; exact .non, by decide, rfl⟩
  | cells n => exact .inl ⟨_, by rw [show v = .int (n : Int) from h]; exact .int _, by decide, rfl⟩
  | part n => obtain ⟨a, e, g⟩ := h; exact .inr ⟨a, _, e, g, rfl⟩
  | tie l sd m => obtain ⟨a, e, g⟩ := h; exact .inr ⟨a, _, e, g, rfl⟩
theorem SzV.nn {H : Hp} {v : V} {z : Sz} (h : SzV H v z) : decide (v = .non) = z.isNon := by
  cases z with
  | non => rw [show v = .non from h]; rfl
  | cells n => rw [show v = .int (n : Int) from h]; rfl
  | part n => obtain ⟨a, e, g⟩ := h; rw [e]; rfl
  | tie l sd m => obtain ⟨a, e, g⟩ := h; rw [e]; rfl
def SzG (names : List (List Nat)) (p : Bool) (z : Sz) : Prop := (z.isPart = true → p = true) ∧ ∀ l sd m, z = .tie l sd m → l ∈ names
theorem SzIn.v {names : List (List Nat)} {H : Hp} {p : Bool} {v : V} (h : SzIn names H p v) : ∃ z, SzV H v z ∧ SzG names p z := by
  rcases h with h | ⟨n, h⟩ | ⟨e, a, n, e1, g⟩ | ⟨a, l, sd, m, e1, g, q⟩
  · exact ⟨.non, h, (fun z => by cases z), (fun l sd m z => by cases z)⟩
  · exact ⟨.cells n, h, (fun z => by cases z), (fun l sd m z => by cases z)⟩
  · exact ⟨.part n, ⟨a, e1, g⟩, (fun _ => e), (fun l sd m z => by cases z)⟩
  · exact ⟨.tie l sd m, ⟨a, e1, g⟩, (fun z => by cases z), (fun l sd m z => by cases z; exact q)⟩
def Own.stands : Own → String
  | .row _ _ _ _ s => s
  | .pile _ _ s => s
  | .grid _ _ _ _ _ s => s
  | _ => ""
def Own.turn : Own → Bool
  | .row t _ _ _ _ => t
  | _ => false
/-- how b stands in a -/
def standV (b a : At) : V := if b.st.getD 9 .non = .non then sX a.own.stands else b.st.getD 9 .non
def isSt (s : String) (b a : At) : Bool := decide (standV b a = sX s)
def allI (ks : List At) (w : String) : List Item := ks.map fun k => (k.nm, w)
def lineI (a : At) : List Item := allI a.kids "rise" ++ allI (a.kids.filter fun k => isSt "base" k a) "base" ++ (if a.own.turn = true then (a.nm, "wide") :: allI a.kids "wish" else [])
def hoN : Option At → List Nat
  | some a => a.nm
  | none => []
def wishI (b : At) (zw : Sz) (ho : Option At) : List Item :=
  match zw with
  | .part _ => [(hoN ho, "wide")]
  | .tie l sd _ => [(l, sd)]
  | .cells _ => []
  | .non => allI b.kids "wish" ++ (if b.own.kd = .grid then allI b.kids "least" else [])
def leastI (b : At) (zw : Sz) : List Item :=
  if b.st.getD 2 .non ≠ .non then [] else allI b.kids "least" ++ (if zw.isPart = true then [] else [(b.nm, "wish")])
def wideI (b : At) (zw : Sz) : Option At → List Item
  | none => []
  | some a =>
    if a.own.kd = .row then (a.nm, "wide") :: (allI a.kids "least" ++ allI a.kids "wish")
    else if zw.isNon = false then [(b.nm, "wish")]
    else if a.own.kd = .grid then (a.nm, "wide") :: (allI a.kids "least" ++ allI a.kids "wish")
    else if isSt "stretch" b a = true then [(a.nm, "wide")]
    else [(a.nm, "wide"), (b.nm, "least"), (b.nm, "wish")]
def leftI (b : At) : Option At → List Item
  | none => []
  | some a =>
    [(a.nm, "left"), (a.nm, "wide")] ++
    (if a.own.kd = .pile then [(b.nm, "wide")]
    else if a.own.kd = .grid then allI a.kids "least" ++ (allI a.kids "wish" ++ [(b.nm, "wide")])
    else (if a.own.turn = true then allI a.kids "wish" else []) ++ allI a.kids "wide")
def flowI (b : At) : List Item :=
  if b.own.kd = .words ∨ b.own.kd = .picture then [(b.nm, "wide")]
  else if b.own.kd = .row then lineI b
  else allI b.kids "rise"
def riseI (b : At) (zh : Sz) (ho : Option At) : List Item :=
  match zh with
  | .non => [(b.nm, "flow")]
  | .part _ => [(hoN ho, "tall")]
  | .tie l sd _ => [(l, sd)]
  | .cells _ => []
def tallI (b : At) (zh : Sz) (free : Bool) : Option At → List Item
  | none => if free = true then [(b.nm, "rise")] else []
  | some a =>
    if a.own.kd = .pile then (a.nm, "tall") :: allI a.kids "rise"
    else if (zh.isNon && isSt "stretch" b a) = false then [(b.nm, "rise")]
    else if a.own.kd = .grid then (a.nm, "tall") :: allI a.kids "rise"
    else if a.own.turn = true then lineI a
    else [(a.nm, "tall")]
def baseI (b : At) : List Item :=
  if b.own.kd = .words then []
  else match b.kids with
    | k :: _ => [(k.nm, "base")]
    | [] => [(b.nm, "rise")]
def topI (b : At) : Option At → List Item
  | none => []
  | some a =>
    (a.nm, "top") ::
    (if a.own.kd = .pile then (a.nm, "tall") :: allI a.kids "tall"
    else (b.nm, "tall") ::
      (if a.own.kd = .grid then (a.nm, "tall") :: allI a.kids "rise"
      else if a.own.turn = true then lineI a
      else (a.nm, "tall") :: allI (a.kids.filter fun k => isSt "base" k a) "base"))
def needI (wd : String) (b : At) (zw zh : Sz) (free : Bool) (ho : Option At) : List Item :=
  if wd = "least" then leastI b zw
  else if wd = "wish" then wishI b zw ho
  else if wd = "wide" then wideI b zw ho
  else if wd = "flow" then flowI b
  else if wd = "rise" then riseI b zh ho
  else if wd = "tall" then tallI b zh free ho
  else if wd = "base" then baseI b
  else if wd = "left" then leftI b ho
  else topI b ho
/-- the holder -/
def HoAt (bc : Kd → Addr) (S : Addr) (K : PySem.W.Frag) (H : Hp) (t b : At) (hv : V) (ho : Option At) : Prop := (hv = .non ∧ ho = none) ∨ ∃ (a : At) (hw : V), hv = .str (sO a.nm) ∧ (a.x, a.nm, hw) ∈ t.pre .non ∧ BoxAt bc S K H a ∧ ho = some a ∧ b ∈ a.kids
theorem HoAt.ks {bc : Kd → Addr} {S : Addr} {K : PySem.W.Frag} {H H' : Hp} {t b : At} {hv : V} {ho : Option At} (h : HoAt bc S K H t b hv ho) (k : KeepS H H') : HoAt bc S K H' t b hv ho :=
  h.imp id fun ⟨a, hw, e, m, ba, r⟩ => ⟨a, hw, e, m, ba.ks k, r⟩
/-- a list or a tuple, walked through -/
def iSeq (K : PySem.W.Frag) (tl : TE) : TI := fun σ H R => iList K tl σ H R ∨ iTup K tl σ H R
theorem pi_seqK {X : Cx} {K : PySem.W.Frag} {tg l : Expr} {tl : TE} (h : X.K = K) (hl : PE X l tl) : PI X tg l (iSeq K tl) :=
  ⟨fun pins s σ H R I q => q.elim ((pi_listK h hl).run pins s σ H R I) ((pi_tupK h hl).run pins s σ H R I)⟩
section
variable {K : PySem.W.Frag} {a : Addr} {g : TG} {tt : TT} {te : TE} {vs : List Nat} {σ : L2.St} {H1 : Hp} {D : Addr} {Qd : Hp → Prop} {α : Type}
/-- new objects one for each item of a tuple -/
theorem lcTs (ρ0 : α → V) {ys : List α} (R : Nat → V → Hp → Prop) (mono : ∀ i v H H' acc, R i v H → H D = some (.lst acc) → But D H H' → R i v H') (hD : H1 D = none) (hx : SqT K H1 a (ys.map ρ0)) (hn : ys.length ≤ 100000)
    (hs : ∀ (i : Nat) (y : α) (H : Hp) (Kt : V → Hp → Prop) (Kf : Hp → Prop) (acc : List V), ys[i]? = some y → Same H1 H → H D = some (.lst acc) → (∀ v H4, Same H H4 → R i v H4 → Kt v H4) → LcT g tt te vs σ (ρ0 y) H Kt Kf)
    (hd : ∀ (us : List V) (H : Hp), Same H1 H → us.length = ys.length → (∀ (i : Nat) (b : V), us[i]? = some b → R i b H) → H D = some (.lst us) → Qd H) : LcG (Itt K a) g tt te vs σ H1 D Qd :=
  lcT (fun i acc H' => Same H1 H' ∧ acc.length = i ∧ ∀ (i : Nat) (b : V), acc[i]? = some b → R i b H')
    (fun H' s' _ => ⟨s', rfl, fun i b h => by cases h⟩) hD (fun i acc H' p => Same.seqT p.1 hx) (fun i x acc H' Kt Kf hxi p e kk => by
      obtain ⟨y, hy, rfl⟩ := of_map hxi
      have hi := (List.getElem?_eq_some_iff.mp hy).1
      obtain ⟨dp, hul, hub⟩ := p
      exact hs i y H' Kt Kf acc hy dp e fun b H4 s4 hR => kk.yes _ _ (s4 _ _ e) (Nat.lt_of_lt_of_le (show _ < 100001 by omega) (by decide)) fun H5 b5 g5 => ⟨Same.mut' (dp.trans s4) b5 hD, by rw [List.length_append, hul]; rfl, fun j c hc => by
        by_cases hj : j < acc.length
        · rw [List.getElem?_append_left hj] at hc
          exact mono _ _ _ _ _ (mono _ _ _ _ _ (hub j c hc) e (Same.but s4)) (s4 _ _ e) b5
        · have hj2 : j = i := by
            have := (List.getElem?_eq_some_iff.mp hc).1
            rw [List.length_append] at this
            simp at this; omega
          subst hj2
          rw [← hul, List.getElem?_concat_length] at hc
          cases hc; exact mono _ _ _ _ _ hR (s4 _ _ e) b5⟩)
    (fun acc H' p e => by
      obtain ⟨dp, hul, hub⟩ := p
      rw [List.length_map] at hul
      exact hd acc H' dp hul hub e)
end
theorem all_its {H : Hp} {ks : List At} {wd : String} {us : List V} (hl : us.length = ks.length) (h : ∀ (i : Nat) (v : V), us[i]? = some v → ∀ k, ks[i]? = some k → ItAt H v (k.nm, wd)) : ItmsAt H us (allI ks wd) := ⟨by unfold allI; rw [List.length_map, hl], fun i v it a b => by
  unfold allI at b
  rw [List.getElem?_map] at b
  cases e : ks[i]? with
  | none => rw [e] at b; cases b
  | some k => rw [e] at b; cases b; exact h i v a k e⟩
theorem BoxAt.stands {bc : Kd → Addr} {S : Addr} {K : PySem.W.Frag} {H : Hp} {a : At} (h : BoxAt bc S K H a) (n1 : a.own.kd ≠ .words) (n2 : a.own.kd ≠ .picture) : ∃ (dx : Addr) (fs : List (Str × V)), H a.x = some (.ins (bc a.own.kd) dx fs) ∧ fs.lookup (Str.ofString "stands") = some (sX a.own.stands) := by
  cases h with
  | words => exact absurd rfl n1
  | picture => exact absurd rfl n2
  | row hx hy ok hn g0 l0 hb lk hk => exact ⟨_, _, hx, rfl⟩
  | pile hx hy ok hn g0 hb lk hk => exact ⟨_, _, hx, rfl⟩
  | grid hx hy ok hn g0 l0 hb lk hk hc tc oc nc hr tr or nr hs ts lsp lcs lrs => exact ⟨_, _, hx, rfl⟩
/-- the boxes of a holder -/
theorem BoxAt.boxesA {bc : Kd → Addr} {S : Addr} {K : PySem.W.Frag} {H : Hp} {a : At} (h : BoxAt bc S K H a) (n1 : a.own.kd ≠ .words) (n2 : a.own.kd ≠ .picture) : ∃ (dx q : Addr) (fs : List (Str × V)), H a.x = some (.ins (bc a.own.kd) dx fs) ∧ fs.lookup (Str.ofString "boxes") = some (.ref q) ∧ H q = some (.tup (refs a.kids)) := by
  cases h with
  | words => exact absurd rfl n1
  | picture => exact absurd rfl n2
  | row hx hy ok hn g0 l0 hb lk hk => exact ⟨_, _, _, hx, rfl, hb⟩
  | pile hx hy ok hn g0 hb lk hk => exact ⟨_, _, _, hx, rfl, hb⟩
  | grid hx hy ok hn g0 l0 hb lk hk hc tc oc nc hr tr or nr hs ts lsp lcs lrs => exact ⟨_, _, _, hx, rfl, hb⟩
theorem standV_str {K : PySem.W.Frag} {H : Hp} {b a : At} (ok : OkL K H b.st) : ∃ s, standV b a = sX s := by
  obtain ⟨w0, w1, w2, w3, w4, w5, w6, w7, w8, w9, eb⟩ := ten ok.1
  unfold standV
  rcases (show StAt w9 from ok.2 9 w9 (by rw [eb]; rfl)) with e | ⟨s, _, e⟩
  · exact ⟨a.own.stands, by rw [eb]; show (if w9 = .non then _ else _) = _; rw [if_pos e]⟩
  · exact ⟨s, by rw [eb]; show (if w9 = .non then _ else w9) = _; rw [if_neg (by rw [e]; simp), e]⟩
theorem BoxAt.turnA {bc : Kd → Addr} {S : Addr} {K : PySem.W.Frag} {H : Hp} {a : At} (h : BoxAt bc S K H a) (k : a.own.kd = .row) : ∃ (dx : Addr) (fs : List (Str × V)), H a.x = some (.ins (bc .row) dx fs) ∧ fs.lookup (Str.ofString "turn") = some (.bl a.own.turn) ∧ fs.lookup (Str.ofString "name") = some (.str (sO a.nm)) := by
  cases h with
  | words => cases k
  | picture => cases k
  | row hx hy ok hn g0 l0 hb lk hk => exact ⟨_, _, hx, rfl, rfl⟩
  | pile => cases k
  | grid => cases k
theorem allI_len (ks : List At) (w : String) : (allI ks w).length = ks.length := by unfold allI; rw [List.length_map]
/-- what each of the nine promises -/
def sp_need (wd : String) (bc : Kd → Addr) (S C : Addr) (K : PySem.W.Frag) : Sp := fun vs H Q _ => ∃ (x fp : Addr) (t b : At) (hv : V) (ho : Option At) (zw zh : Sz) (fw : Int) (fh : V), vs = [.ref x, .ref fp, .str (sO b.nm)] ∧ NestAt C H x t ∧ ((t.pre .non).map (·.2.1)).Nodup ∧ (b.x, b.nm, hv) ∈ t.pre .non ∧ BoxAt bc S K H b ∧ HoAt bc S K H t b hv ho ∧ SzV H (b.st.getD 0 .non) zw ∧ SzV H (b.st.getD 1 .non) zh ∧ H fp = some (.tup [.int fw, fh]) ∧ (ho = none → zw.isPart = false ∧ zh.isPart = false) ∧ NewIts H (needI wd b zw zh (decide (fh = .non)) ho) Q
theorem need_len {wd : String} {bc : Kd → Addr} {S C : Addr} {K : PySem.W.Frag} {vs : List V} {H : Hp} {Q : VK} {E : XK} (h : sp_need wd bc S C K vs H Q E) : vs.length = 3 := by
  obtain ⟨x, fp, t, b, hv, ho, zw, zh, fw, fh, rfl, _⟩ := h
  rfl
end My

/-! ### a comprehension whose first walk wants a token (a replace within it), and a sum whose left part gives one -/
namespace My
open PySem PySem.Spec PyProof.Rows L2
section
variable {X : Cx}
/-- a + b: the left one gives a token out, the right one wants it -/
theorem pe_opG {op : Operator} {r : R2} {a b : Expr} {ta tb : TE} {pos : Pos} (ho : OpR X (binaryOp op) r) (ha : PEG X a ta) (hb : PET X b tb) : PE X (.BinOp a op b pos) (tOp r ta tb) := by
  refine ⟨fun pins s σ H Q I q => wpAny_BinOp (thn (ha pins s σ H _ I q) ?_)⟩
  rintro v1 s1 ⟨tk, x1, G1, J1, r1, q1⟩
  exact thn (hb pins s1 σ G1 _ tk J1 q1) fun v2 s2 ⟨x2, G2, J2, r2, q2⟩ => ho pins s2 σ G2 x1 x2 v1 v2 Q J2 r1 r2 q2
end
section
variable {X : Cx}
theorem pit_listK {K : PySem.W.Frag} (hK : X.K = K) {tg l : Expr} {tl : TE} (hl : PET X l tl) : PIT X tg l (iList K tl) := by
  subst hK
  exact pit_list hl
end
/-- the block's loop ahead of a turn: its context B, its slots ω, what is walked (fp, tn), the caller's measure W -/
def LtAt (B : Cx) (ω : L2.St) (fp : List Addr) (tn : Nat → Heap → Prop) (W : Nat → Nat → Hp → Prop) (n : Nat) (s : Shared) : Prop :=
  ∃ (j : Nat) (G : Hp), Inv B [] ω G s ∧ tn j s.heap ∧ W j n G ∧ ∀ b ∈ fp, G b = none
/-- in the block, what is walked is nobody's -/
theorem lt_walk {X : Cx} {t : Shared} {G0 G : Hp} {scope : Scope} {ce : Env} {fp : List Addr} {ω : L2.St} {s : Shared} (I : Inv (X.blk t G0 scope ce fp) [] ω G s) (hn : ∀ b ∈ fp, G b = none) : ∀ b ∈ fp, FpOk (X.blk t G0 scope ce fp) [] G b := by
  intro b mb
  have z := I.ok.exf b mb
  refine ⟨hn b mb, z.1, I.ok.exfs b mb, .inl mb, fun y c e => z.2 y c e, ?_⟩
  rintro p (mp : p ∈ ([] : List (Addr × Obj)) ++ [])
  cases mp
section
variable {X : Cx} {elt tg iter : Expr} {ifs : List Expr} {scope : Scope} {own : List (Str × Nat)} {pos : Pos} {g : TG} {tt : TT} {te : TE}
/-- one turn that yields -/
theorem lt_turn {t : Shared} {G0 : Hp} {ce : Env} {fp : List Addr} {tn : Nat → Heap → Prop} {W : Nat → Nat → Hp → Prop} {J : L2.It} {it D : Addr} {σ : L2.St} {j n : Nat} {G : Hp} {s : Shared} {Nx : Hp → Prop}
    (calm : X.calm = true) (T : Turn X.prog X.w X.K tg J fp it tn)
    (gB : PG (X.blk t G0 scope ce fp) tg g) (tB : PTs (X.blk t G0 scope ce fp) ifs tt) (eB : PE (X.blk t G0 scope ce fp) elt te)
    (I : Inv (X.blk t G0 scope ce fp) [] (wipe σ (own.map (·.2))) G s) (at_ : tn j s.heap) (free : ∀ b ∈ fp, G b = none) (go : J.go j G)
    (down : ∀ G', Nx G' → ∃ m, m < n ∧ W (j + 1) m G')
    (step : ∀ x G', J.yld j G x G' → g x (wipe σ (own.map (·.2))) G' fun σ2 G2 => wipe σ2 (own.map (·.2)) = wipe σ (own.map (·.2)) ∧ tt σ2 G2 fun b G3 =>
      if b = true then te σ2 G3 fun y G4 => ∃ acc, G4 D = some (.lst acc) ∧ acc.length < sizeLine ∧ Nx (upd G4 D (.lst (acc ++ [y]))) else Nx G3)
    {R : Option Value → Shared → Prop} {E : Value → Shared → Prop}
    (hR : ∀ u s1, wpAny (model X.prog X.w) X.A (letOwnedTupleGo tg (.ref it) u) (fun _ s2 => wpAny (model X.prog X.w) X.A (assign tg ce u) (fun _ s3 =>
        wpAny (model X.prog X.w) X.A (forIn ifs true fun c r => if r = true then do let ok ← isTrue c ce (eval c ce); pure (ForInStep.yield ok) else pure (ForInStep.yield r)) (fun ok s4 =>
          if ok = true then wpAny (model X.prog X.w) X.A (eval elt ce) (fun z s5 => wpAny (model X.prog X.w) X.A (call (.builtin "list.append") [.ref D, z]) (fun _ s6 => ∃ m, m < n ∧ LtAt (X.blk t G0 scope ce fp) (wipe σ (own.map (·.2))) fp tn W m s6) (fun _ _ => False) s5) (fun _ _ => False) s4
          else ∃ m, m < n ∧ LtAt (X.blk t G0 scope ce fp) (wipe σ (own.map (·.2))) fp tn W m s4) (fun _ _ => False) s3) (fun _ _ => False) s2) (fun _ _ => False) s1 → R (some u) s1) :
    wpAny (model X.prog X.w) X.A (pyNext (.ref it)) R E s := by
  refine thnF (T.item (X.blk t G0 scope ce fp) rfl rfl rfl calm j [] s _ G _ I (lt_walk I free) at_ go) ?_
  rintro _ s1 ⟨u, rfl, k⟩
  refine hR u s1 (thnF k ?_)
  rintro _ s2 ⟨x, G2, I2, ru, hy, at2, free2⟩
  have P2 := I2.pinned (lt_walk I2 free2) (T.obj _ _ at2)
  -- what stands at a turn's end
  have back : ∀ {σ3 : L2.St} {s3 : Shared} {G3 : Hp}, Inv (X.blk t G0 scope ce fp) ([] ++ pinsAt fp s2.heap) σ3 G3 s3 → wipe σ3 (own.map (·.2)) = wipe σ (own.map (·.2)) → Nx G3 → ∃ m, m < n ∧ LtAt (X.blk t G0 scope ce fp) (wipe σ (own.map (·.2))) fp tn W m s3 := by
    intro σ3 s3 G3 I3 ew nx
    obtain ⟨m, lm, wm⟩ := down G3 nx
    have held : ∀ b, b ∈ fp → ∀ o, s2.heap.get? b = some o → s3.heap.get? b = some o ∧ G3 b = none := by
      intro b mb o e
      have z := I3.pin (b, o) (List.mem_append_right _ (List.mem_append_right _ (mem_pinsAt mb e)))
      exact ⟨z.1, z.2.1⟩
    refine ⟨m, lm, j + 1, G3, Inv.weak (Inv.unpinned (pins := []) I3) ?_ ?_, T.keep _ _ _ at2 fun b mb o e => (held b mb o e).1, wm, fun b mb => ?_⟩
    · rw [← ew, wipe_length]
    · intro i v e
      rw [← ew] at e
      exact (wipe_some e).1
    · obtain ⟨o, e, _⟩ := T.obj _ _ at2 b mb
      exact (held b mb o e).2
  refine thnF (gB.run _ s2 _ G2 x u _ P2 ru (step x G2 hy)) ?_
  rintro _ s3 ⟨σ3, G3, I3, ew, q3⟩
  refine thnF (tB.run _ s3 σ3 G3 _ I3 q3) ?_
  rintro b s4 ⟨G4, I4, q4⟩
  cases b with
  | false => exact back I4 ew q4
  | true =>
    refine thnF (eB.run _ s4 σ3 G4 _ I4 q4) ?_
    rintro z s5 ⟨y, G5, I5, ry, acc, hD, la, nx⟩
    exact app_ok (X := X.blk t G0 scope ce fp) I5 hD la ry fun s6 I6 => back I6 ew nx
/-- [elt for tg in iter ..], the walk wants a token -/
theorem pet_lc {wi : TI} (calm : X.calm = true) (nd : X.N.Nodup) (hi : PIT X tg iter wi) (ok : BlkOk X.N X.env.scope scope own)
    (hg : ∀ (s : Shared) (H : Hp) (C : Addr) (cl : List (Str × Addr)) (fp : List Addr), PG (X.blk s H scope (compEnvC scope cl C X.env) fp) tg g)
    (ht : ∀ (s : Shared) (H : Hp) (C : Addr) (cl : List (Str × Addr)) (fp : List Addr), PTs (X.blk s H scope (compEnvC scope cl C X.env) fp) ifs tt)
    (he : ∀ (s : Shared) (H : Hp) (C : Addr) (cl : List (Str × Addr)) (fp : List Addr), PE (X.blk s H scope (compEnvC scope cl C X.env) fp) elt te)
    (fold : ∀ x, foldedSetIterable iter X.env x = pure x := by intro _; rfl) :
    PET X (.ListComp elt [⟨tg, iter, ifs, 0⟩] scope pos) (tLc wi g tt te (own.map (·.2))) := by
  intro pins s σ H Q tk I h
  rw [eval_ListComp]
  have clo : ∀ y ∈ scope.names, y.2 = .free → ∃ c, X.env.cells.lookup y.1 = some c := fun y my e => (ok.free y my e).elim (fun k => I.ok.has _ (.inl k)) fun k => I.ok.has _ (.inr k)
  refine wpAny_comprehension_free (use := none) rfl fold (closure_ok clo) ok.kind (fun y my e => by rw [ok.uniq y my, e]) (thn (hi pins s σ H _ tk I h) fun _ s1 k1 => thn k1 ?_)
  rintro _ s2 ⟨it, fp, tn, J, H2, rfl, I2, T, at2, f2, q⟩
  refine wpAny_newObj_type (newEnv_comp ?_) (Nat.zero_le _)
  have free2 : H2 s2.heap.objs.size = none := I2.hok.fresh (Nat.le_refl _)
  obtain ⟨W, ⟨n0, w0⟩, turn⟩ := q s2.heap.objs.size free2
  -- the new list stands
  have old : ∀ b o, s2.heap.get? b = some o → (s2.heap.push { cls := .type "list", data := .seq ([] : List Value).toArray }).get? b = some o := fun b o e => Heap.get?_push_of_some _ e
  have I3 : Inv X pins σ (upd H2 s2.heap.objs.size (.lst [])) { s2 with heap := s2.heap.push { cls := .type "list", data := .seq ([] : List Value).toArray } } :=
    I2.laid (t' := s2.toks) old (Nat.le_refl _) ⟨Nat.zero_le _, [], 0, .nil, Heap.get?_push_size _ rfl⟩
  have old3 : ∀ b o, s2.heap.get? b = some o → ({ s2 with heap := s2.heap.push { cls := .type "list", data := .seq ([] : List Value).toArray } } : Shared).heap.get? b = some o := old
  have lt3 : ∀ b o, s2.heap.get? b = some o → b < ({ s2 with heap := s2.heap.push { cls := .type "list", data := .seq ([] : List Value).toArray } } : Shared).heap.objs.size := fun b o e => Heap.lt_size (old b o e)
  generalize hD : s2.heap.objs.size = D at free2 w0 turn I3 ⊢
  generalize ({ s2 with heap := s2.heap.push { cls := .type "list", data := .seq ([] : List Value).toArray } } : Shared) = s3 at I3 old3 lt3 ⊢
  have f3 : ∀ b ∈ fp, FpOk X pins (upd H2 D (.lst [])) b ∧ b < s3.heap.objs.size := by
    intro b mb
    obtain ⟨o, e, _⟩ := T.obj _ _ at2 b mb
    have lb : b < D := by rw [← hD]; exact Heap.lt_size e
    exact ⟨⟨(upd_ne (Nat.ne_of_lt lb)).trans (f2 b mb).1, (f2 b mb).2⟩, lt3 b o e⟩
  have at3 : tn 0 s3.heap := T.keep _ _ _ at2 fun b _ o e => old3 b o e
  generalize upd H2 D (.lst []) = G0 at w0 I3 f3
  have I4 := block_start I3 ok nd f3
  have gB := hg s3 G0 s3.heap.objs.size (cellsFrom (s3.heap.objs.size + 1) scope.names (cloFrom X.env.cells scope.names [])) fp
  have tB := ht s3 G0 s3.heap.objs.size (cellsFrom (s3.heap.objs.size + 1) scope.names (cloFrom X.env.cells scope.names [])) fp
  have eB := he s3 G0 s3.heap.objs.size (cellsFrom (s3.heap.objs.size + 1) scope.names (cloFrom X.env.cells scope.names [])) fp
  have cL : (compEnvC scope (cellsFrom (s3.heap.objs.size + 1) scope.names (cloFrom X.env.cells scope.names [])) s3.heap.objs.size X.env).locals = s3.heap.objs.size := rfl
  show codeAny _ _ (.compStart _ 0 (.ref it) (.ref D) (compEnvC scope (cellsFrom (s3.heap.objs.size + 1) scope.names (cloFrom X.env.cells scope.names [])) s3.heap.objs.size X.env)) (compPost (model X.prog X.w) X.A X.xe none _ (.ref D) s3.heap.objs.size) { s3 with heap := pushCells (s3.heap.push { cls := .type "dict", data := .dict #[] }) scope.names }
  have at4 : tn 0 (pushCells (s3.heap.push { cls := .type "dict", data := .dict #[] }) scope.names) := T.keep _ _ _ at3 fun b _ o e => pushCells_keeps _ _ _ _ (Heap.get?_push_of_some _ e)
  generalize compEnvC scope (cellsFrom (s3.heap.objs.size + 1) scope.names (cloFrom X.env.cells scope.names [])) s3.heap.objs.size X.env = ce at I4 gB tB eB cL ⊢
  generalize hs4 : ({ s3 with heap := pushCells (s3.heap.push { cls := .type "dict", data := .dict #[] }) scope.names } : Shared) = s4 at I4 ⊢
  have at4 : tn 0 s4.heap := by rw [← hs4]; exact at4
  refine codeAny_compStart_list ?_ (T.self X.A 0 _ _ _ at4 ?_) <;>
  · refine compLoop_any (LtAt (X.blk s3 G0 scope ce fp) (wipe σ (own.map (·.2))) fp tn W) ?_ n0 ⟨0, G0, I4, at4, w0, fun b mb => (f3 b mb).1.1⟩
    rintro n s5 ⟨j, G, I5, at5, w5, free5⟩
    rcases turn j n G w5 with ⟨stop, fin⟩ | ⟨go, Nx, down, step⟩
    · refine thnF (T.done (X.blk s3 G0 scope ce fp) rfl rfl rfl calm j [] s5 _ G _ I5 (lt_walk I5 free5) at5 stop) ?_
      rintro _ s6 ⟨rfl, I6⟩
      have I7 : Inv X pins σ G s6 := I3.call' (ch := fp) I6.os I6.base I6.hok I6.bare fun b mb => by
        obtain ⟨⟨_, z1, z2, z3, z4, z5⟩, _⟩ := f3 b mb
        exact ⟨z3, z1, z4, z5⟩
      have nC : G s3.heap.objs.size = none := by rw [← cL]; exact I6.free
      obtain ⟨m, hn, _⟩ := I6.loc
      have hn : s6.heap.Ns s3.heap.objs.size m := by rw [← cL]; exact hn
      obtain ⟨z0, z1, z2, z3, z4, z5⟩ := I3.fpOk (Nat.le_refl _) nC
      exact ⟨m, hn, fun h7 sb => ⟨.ref D, G, I7.turned (t' := s6.toks) (fun b o hb e => (sb.2 b hb).trans e) z0 z1 z3 z4 z5, rfl, fin⟩⟩
    · exact lt_turn calm T gB tB eB I5 at5 free5 go down step fun u s6 k => wpAny_mono k (fun _ s7 k => wpAny_mono k (fun _ s8 k => wpAny_mono k (fun ok s9 k => by
        cases ok with
        | false => exact k
        | true => exact wpAny_mono k (fun z s10 k => wpAny_mono k (fun _ _ k => k) fun _ _ f => f.elim) fun _ _ f => f.elim) fun _ _ f => f.elim) fun _ _ f => f.elim) fun _ _ f => f.elim
end
/-! words of a text whose line feeds have become blanks -/
theorem words_blank (a b : List Nat) : wordsL (a ++ 32 :: b) = wordsL a ++ wordsL b := by
  unfold wordsL
  rw [cut_append, List.filter_append]
theorem words_join : ∀ ps : List (List Nat), wordsL (TL.joinL [32] ps) = ps.flatMap wordsL
  | [] => by rfl
  | [p] => by
    rw [List.flatMap_cons, List.flatMap_nil, List.append_nil]
    rfl
  | p :: q :: r => by
    rw [List.flatMap_cons, ← words_join (q :: r), ← words_blank]
    rfl
section
variable {K : PySem.W.Frag} {a : Addr} {g : TG} {tt : TT} {te : TE} {vs : List Nat} {σ : L2.St} {H1 : Hp} {D : Addr} {Qd : Hp → Prop} {α : Type}
/-- a new list of texts for each item of a list -/
theorem lcLw (ρ0 : α → V) (W : α → List (List Nat)) {ys : List α} (hD : H1 D = none) (hx : SqL K H1 a (ys.map ρ0)) (hn : ys.length ≤ 100000)
    (hs : ∀ (i : Nat) (y : α) (H : Hp) (Kt : V → Hp → Prop) (Kf : Hp → Prop), ys[i]? = some y → Same H1 H → (∀ b H4, Same H H4 → H b = none → H4 b = some (.lst ((W y).map fun p => V.str (sO p))) → Kt (.ref b) H4) → LcT g tt te vs σ (ρ0 y) H Kt Kf)
    (hd : ∀ (H : Hp), Same H1 H → PtsAt H D (ys.map W) → Qd H) : LcG (Itl K a) g tt te vs σ H1 D Qd :=
  lcL (fun i acc H' => Same H1 H' ∧ acc.length = i ∧ ∀ (j : Nat) (b : V) (y : α), acc[j]? = some b → ys[j]? = some y → ∃ c, b = .ref c ∧ c ≠ D ∧ H' c = some (.lst ((W y).map fun p => V.str (sO p))))
    (fun H' s' _ => ⟨s', rfl, fun j b y h => by cases h⟩) hD (fun i acc H' p => Same.seq p.1 hx) (fun i x acc H' Kt Kf hxi p e kk => by
      obtain ⟨y, hy, rfl⟩ := of_map hxi
      have hi := (List.getElem?_eq_some_iff.mp hy).1
      obtain ⟨dp, hul, hub⟩ := p
      refine hs i y H' Kt Kf hy dp fun b H4 s4 nb gb => kk.yes _ _ (s4 _ _ e) (Nat.lt_of_lt_of_le (show _ < 100001 by omega) (by decide)) fun H5 b5 g5 => ⟨Same.mut' (dp.trans s4) b5 hD, by rw [List.length_append, hul]; rfl, fun j c z hc hz => ?_⟩
      by_cases hj : j < acc.length
      · rw [List.getElem?_append_left hj] at hc
        obtain ⟨q, eq, nq, gq⟩ := hub j c z hc hz
        exact ⟨q, eq, nq, b5.app nq (s4 _ _ gq)⟩
      · have hj2 : j = i := by
          have := (List.getElem?_eq_some_iff.mp hc).1
          rw [List.length_append] at this
          simp at this; omega
        subst hj2
        rw [← hul, List.getElem?_concat_length] at hc
        cases hc
        rw [hy] at hz
        cases hz
        have nbD : b ≠ D := by
          rintro rfl
          rw [nb] at e
          cases e
        exact ⟨b, rfl, nbD, b5.app nbD gb⟩)
    (fun acc H' p e => by
      obtain ⟨dp, hul, hub⟩ := p
      rw [List.length_map] at hul
      refine hd H' dp ⟨acc, e, by rw [List.length_map]; exact hul, fun i v w a1 a2 => ?_⟩
      rw [List.getElem?_map] at a2
      cases hy : ys[i]? with
      | none => rw [hy] at a2; cases a2
      | some y =>
      rw [hy] at a2
      cases a2
      obtain ⟨c, ec, _, gc⟩ := hub i v y a1 hy
      exact ⟨c, ec, gc⟩)
end
theorem wish_max {x : List Nat} {m : Int} (h : m ∈ ((cut 10 x).map wordsL).map fun ws => (((TL.joinL [32] ws).length : Nat) : Int)) (g : ∀ y ∈ ((cut 10 x).map wordsL).map fun ws => (((TL.joinL [32] ws).length : Nat) : Int), y ≤ m) : m = (wishL x : Nat) := by
  have e : (((cut 10 x).map wordsL).map fun ws => (((TL.joinL [32] ws).length : Nat) : Int)) = ((cut 10 x).map fun p => (joined p).length).map Int.ofNat := by
    rw [List.map_map, List.map_map]
    rfl
  rw [e] at h g
  exact maxN_of h g
theorem long_max {x : List Nat} {m : Int} (h : m ∈ (0 : Int) :: (wordsL (blankL x)).map fun w => ((w.length : Nat) : Int)) (g : ∀ y ∈ (0 : Int) :: (wordsL (blankL x)).map fun w => ((w.length : Nat) : Int), y ≤ m) : m = (longL x : Nat) := by
  have e : ((0 : Int) :: (wordsL (blankL x)).map fun w => ((w.length : Nat) : Int)) = (0 :: ((cut 10 x).flatMap wordsL).map List.length).map Int.ofNat := by
    unfold blankL
    rw [words_join, List.map_cons, List.map_map]
    rfl
  rw [e] at h g
  have := maxN_of h g
  rw [this]
  show ((max 0 (longL x) : Nat) : Int) = _
  rw [Nat.zero_max]
def heldO (n : Int) (l m : Option Int) : Int := match l with | some l => max (match m with | some m => min n m | none => n) l | none => (match m with | some m => min n m | none => n)
theorem heldO_eq {n : Int} {l m : Option Int} (hn : 0 ≤ n) (hm : ∀ k, m = some k → 0 ≤ k) : heldO n l m = heldM n (l.getD 0) m := by
  cases l with
  | some l => cases m <;> rfl
  | none =>
    cases m with
    | none => show n = max n 0; omega
    | some k =>
      have := hm k rfl
      show min n k = max (min n k) 0
      omega
end My

/-! ### a dict comprehension whose keys are tuples -/
namespace My
open PySem PySem.Spec PyProof.Rows L2
theorem units1 {k : Nat} {A : Around} (r : Room k A) : A.units + 1 < cLine := by have := r.un; omega
/-- a put under a tuple -/
theorem dt_put {X : Cx} {pins : List (Addr × Obj)} {σ : L2.St} {H : Hp} {s : Shared} {E : Value → Shared → Prop} {D b : Addr} {kvs : List (List Key × V)} {k : List Key} {v : V} {r : Value} {Q : Unit → Shared → Prop} (hu : X.A.units + 1 < cLine) (I : Inv X pins σ H s) (hD : H D = some (.dT kvs)) (hz : kvs.length < sizeLine)
    (hb : H b = some (.tup (k.map kV))) (rv : RelV v r) (h : ∀ s', Inv X pins σ (upd H D (.dT (putK kvs k v))) s' → Q () s') : wpAny (model X.prog X.w) X.A (dictSet D (.ref b) r) Q E s := by
  obtain ⟨z, hd, xs, rel, dd⟩ := dt_of I.hok hD
  have hl : (putK kvs k v).length ≤ sizeLine := by have := length_putK kvs k v; omega
  have hn : ∀ c ys, H c = some (.tup ys) → upd H D (.dT (putK kvs k v)) c = some (.tup ys) := fun c ys e => by
    rw [upd_ne (by rintro rfl; rw [hD] at e; cases e)]
    exact e
  refine wpAny_dictSet_heap (knd := tupleKind (mixKind X.prog X.w)) (Nat.lt_of_succ_lt hu) (key_of I.hok hb) dd (fun h' dd' hs => h _ ?_) (by rw [← rel.length]; exact z)
  obtain ⟨qo, es, ep, hq, h2, h3, h4, _, h5⟩ := dd'
  exact d_write I (by rw [hD]; exact True.intro) hs ⟨qo, hq⟩ ⟨hl, hd, _, (rel.keeps hn).put k (hn _ _ hb) rv, qo, es, ep, hq, h2, h3, h4, h5⟩
/-- {key: value for target in walk if ..}, the keys tuples: D the new dict -/
def tDcT (wi : TI) (g : TG) (tt : TT) (tk tv : TE) (vs : List Nat) : TE := fun σ H Q => wi σ H fun J H1 => ∀ D, H1 D = none → ∃ W : Nat → Nat → Hp → Prop, (∃ m, W 0 m (upd H1 D (.dT []))) ∧ ∀ i m G, W i m G →
  (J.stop i G ∧ Q (.ref D) G) ∨ (J.go i G ∧ ∃ Nx : Hp → Prop, (∀ G', Nx G' → ∃ m', m' < m ∧ W (i + 1) m' G') ∧ ∀ x G', J.yld i G x G' → g x (wipe σ vs) G' fun σ2 G2 => wipe σ2 vs = wipe σ vs ∧ tt σ2 G2 fun b G3 =>
    if b = true then tk σ2 G3 fun y G4 => tv σ2 G4 fun z G5 => ∃ kvs k c, y = .ref c ∧ G5 c = some (.tup (k.map kV)) ∧ G5 D = some (.dT kvs) ∧ kvs.length < sizeLine ∧ Nx (upd G5 D (.dT (putK kvs k z))) else Nx G3)
section
variable {X : Cx} {kx vx tg iter : Expr} {ifs : List Expr} {scope : Scope} {own : List (Str × Nat)} {pos : Pos} {g : TG} {tt : TT} {tk tv : TE}
theorem dct_turn {t : Shared} {G0 : Hp} {ce : Env} {fp : List Addr} {tn : Nat → Heap → Prop} {W : Nat → Nat → Hp → Prop} {J : L2.It} {it D : Addr} {σ : L2.St} {j n : Nat} {G : Hp} {s : Shared} {Nx : Hp → Prop}
    (hu : X.A.units + 1 < cLine) (calm : X.calm = true) (T : Turn X.prog X.w X.K tg J fp it tn)
    (gB : PG (X.blk t G0 scope ce fp) tg g) (tB : PTs (X.blk t G0 scope ce fp) ifs tt) (kB : PE (X.blk t G0 scope ce fp) kx tk) (vB : PE (X.blk t G0 scope ce fp) vx tv)
    (I : Inv (X.blk t G0 scope ce fp) [] (wipe σ (own.map (·.2))) G s) (at_ : tn j s.heap) (free : ∀ b ∈ fp, G b = none) (go : J.go j G)
    (down : ∀ G', Nx G' → ∃ m, m < n ∧ W (j + 1) m G')
    (step : ∀ x G', J.yld j G x G' → g x (wipe σ (own.map (·.2))) G' fun σ2 G2 => wipe σ2 (own.map (·.2)) = wipe σ (own.map (·.2)) ∧ tt σ2 G2 fun b G3 =>
      if b = true then tk σ2 G3 fun y G4 => tv σ2 G4 fun z G5 => ∃ kvs k c, y = .ref c ∧ G5 c = some (.tup (k.map kV)) ∧ G5 D = some (.dT kvs) ∧ kvs.length < sizeLine ∧ Nx (upd G5 D (.dT (putK kvs k z))) else Nx G3)
    {R : Option Value → Shared → Prop} {E : Value → Shared → Prop}
    (hR : ∀ u s1, wpAny (model X.prog X.w) X.A (letOwnedTupleGo tg (.ref it) u) (fun _ s2 => wpAny (model X.prog X.w) X.A (assign tg ce u) (fun _ s3 =>
        wpAny (model X.prog X.w) X.A (forIn ifs true fun c r => if r = true then do let ok ← isTrue c ce (eval c ce); pure (ForInStep.yield ok) else pure (ForInStep.yield r)) (fun ok s4 =>
          if ok = true then wpAny (model X.prog X.w) X.A (eval kx ce) (fun y s5 => wpAny (model X.prog X.w) X.A (eval vx ce) (fun z s6 => wpAny (model X.prog X.w) X.A (dictSet D y z) (fun _ s7 => ∃ m, m < n ∧ LtAt (X.blk t G0 scope ce fp) (wipe σ (own.map (·.2))) fp tn W m s7) (fun _ _ => False) s6) (fun _ _ => False) s5) (fun _ _ => False) s4
          else ∃ m, m < n ∧ LtAt (X.blk t G0 scope ce fp) (wipe σ (own.map (·.2))) fp tn W m s4) (fun _ _ => False) s3) (fun _ _ => False) s2) (fun _ _ => False) s1 → R (some u) s1) :
    wpAny (model X.prog X.w) X.A (pyNext (.ref it)) R E s := by
  refine thnF (T.item (X.blk t G0 scope ce fp) rfl rfl rfl calm j [] s _ G _ I (lt_walk I free) at_ go) ?_
  rintro _ s1 ⟨u, rfl, k⟩
  refine hR u s1 (thnF k ?_)
  rintro _ s2 ⟨x, G2, I2, ru, hy, at2, free2⟩
  have P2 := I2.pinned (lt_walk I2 free2) (T.obj _ _ at2)
  have back : ∀ {σ3 : L2.St} {s3 : Shared} {G3 : Hp}, Inv (X.blk t G0 scope ce fp) ([] ++ pinsAt fp s2.heap) σ3 G3 s3 → wipe σ3 (own.map (·.2)) = wipe σ (own.map (·.2)) → Nx G3 → ∃ m, m < n ∧ LtAt (X.blk t G0 scope ce fp) (wipe σ (own.map (·.2))) fp tn W m s3 := by
    intro σ3 s3 G3 I3 ew nx
    obtain ⟨m, lm, wm⟩ := down G3 nx
    have held : ∀ b, b ∈ fp → ∀ o, s2.heap.get? b = some o → s3.heap.get? b = some o ∧ G3 b = none := by
      intro b mb o e
      have z := I3.pin (b, o) (List.mem_append_right _ (List.mem_append_right _ (mem_pinsAt mb e)))
      exact ⟨z.1, z.2.1⟩
    refine ⟨m, lm, j + 1, G3, Inv.weak (Inv.unpinned (pins := []) I3) ?_ ?_, T.keep _ _ _ at2 fun b mb o e => (held b mb o e).1, wm, fun b mb => ?_⟩
    · rw [← ew, wipe_length]
    · intro i v e
      rw [← ew] at e
      exact (wipe_some e).1
    · obtain ⟨o, e, _⟩ := T.obj _ _ at2 b mb
      exact (held b mb o e).2
  refine thnF (gB.run _ s2 _ G2 x u _ P2 ru (step x G2 hy)) ?_
  rintro _ s3 ⟨σ3, G3, I3, ew, q3⟩
  refine thnF (tB.run _ s3 σ3 G3 _ I3 q3) ?_
  rintro b s4 ⟨G4, I4, q4⟩
  cases b with
  | false => exact back I4 ew q4
  | true =>
    refine thnF (kB.run _ s4 σ3 G4 _ I4 q4) ?_
    rintro y s5 ⟨yv, G5, I5, ry, q5⟩
    refine thnF (vB.run _ s5 σ3 G5 _ I5 q5) ?_
    rintro z s6 ⟨zv, G6, I6, rz, kvs, kk, c, rfl, hc, hD, lk, nx⟩
    obtain rfl : y = .ref c := ry
    exact dt_put (X := X.blk t G0 scope ce fp) hu I6 hD lk hc rz fun s7 I7 => back I7 ew nx
theorem dct_core {wi : TI} {pins : List (Addr × Obj)} {s : Shared} {σ : L2.St} {H : Hp} {Q : VK} {pos' : Pos} {use : Option (Value → Sem Unit)} {Qf : Value → Shared → Prop} (I : Inv X pins σ H s) (hu : X.A.units + 1 < cLine) (calm : X.calm = true) (nd : X.N.Nodup) (hi : PI X tg iter wi) (ok : BlkOk X.N X.env.scope scope own)
    (hg : ∀ (s : Shared) (H : Hp) (C : Addr) (cl : List (Str × Addr)) (fp : List Addr), PG (X.blk s H scope (compEnvC scope cl C X.env) fp) tg g)
    (ht : ∀ (s : Shared) (H : Hp) (C : Addr) (cl : List (Str × Addr)) (fp : List Addr), PTs (X.blk s H scope (compEnvC scope cl C X.env) fp) ifs tt)
    (hk : ∀ (s : Shared) (H : Hp) (C : Addr) (cl : List (Str × Addr)) (fp : List Addr), PE (X.blk s H scope (compEnvC scope cl C X.env) fp) kx tk)
    (hv : ∀ (s : Shared) (H : Hp) (C : Addr) (cl : List (Str × Addr)) (fp : List Addr), PE (X.blk s H scope (compEnvC scope cl C X.env) fp) vx tv)
    (fold : ∀ x, foldedSetIterable iter X.env x = pure x) (h : tDcT wi g tt tk tv (own.map (·.2)) σ H Q)
    (fin : ∀ D C s' m H', Inv X pins σ H' s' → Q (.ref D) H' → s'.heap.Ns C m → FpOk X pins H' C → compPost (model X.prog X.w) X.A X.xe use Qf (.ref D) C (.ok .next) s') :
    wpAny (model X.prog X.w) X.A (comprehension (.DictComp kx vx [⟨tg, iter, ifs, 0⟩] scope pos) scope X.env pos' newDict false (eval iter X.env) use) Qf X.xe s := by
  have clo : ∀ y ∈ scope.names, y.2 = .free → ∃ c, X.env.cells.lookup y.1 = some c := fun y my e => (ok.free y my e).elim (fun k => I.ok.has _ (.inl k)) fun k => I.ok.has _ (.inr k)
  refine wpAny_comprehension_free (use := use) rfl fold (closure_ok clo) ok.kind (fun y my e => by rw [ok.uniq y my, e]) (thn (hi.run pins s σ H _ I h) fun _ s1 k1 => thn k1 ?_)
  rintro _ s2 ⟨it, fp, tn, J, H2, rfl, I2, T, at2, f2, q⟩
  refine wpAny_newObj_type (newEnv_comp ?_)
  have free2 : H2 s2.heap.objs.size = none := I2.hok.fresh (Nat.le_refl _)
  obtain ⟨W, ⟨n0, w0⟩, turn⟩ := q s2.heap.objs.size free2
  have old : ∀ b o, s2.heap.get? b = some o → (s2.heap.push { cls := .type "dict", data := .dict #[] }).get? b = some o := fun b o e => Heap.get?_push_of_some _ e
  have I3 : Inv X pins σ (upd H2 s2.heap.objs.size (.dT [])) { s2 with heap := s2.heap.push { cls := .type "dict", data := .dict #[] } } :=
    I2.laid (t' := s2.toks) old (Nat.le_refl _) (dt_empty s2.heap I2.big)
  have old3 : ∀ b o, s2.heap.get? b = some o → ({ s2 with heap := s2.heap.push { cls := .type "dict", data := .dict #[] } } : Shared).heap.get? b = some o := old
  have lt3 : ∀ b o, s2.heap.get? b = some o → b < ({ s2 with heap := s2.heap.push { cls := .type "dict", data := .dict #[] } } : Shared).heap.objs.size := fun b o e => Heap.lt_size (old b o e)
  generalize hD : s2.heap.objs.size = D at free2 w0 turn I3 ⊢
  generalize ({ s2 with heap := s2.heap.push { cls := .type "dict", data := .dict #[] } } : Shared) = s3 at I3 old3 lt3 ⊢
  have f3 : ∀ b ∈ fp, FpOk X pins (upd H2 D (.dT [])) b ∧ b < s3.heap.objs.size := by
    intro b mb
    obtain ⟨o, e, _⟩ := T.obj _ _ at2 b mb
    have lb : b < D := by rw [← hD]; exact Heap.lt_size e
    exact ⟨⟨(upd_ne (Nat.ne_of_lt lb)).trans (f2 b mb).1, (f2 b mb).2⟩, lt3 b o e⟩
  have at3 : tn 0 s3.heap := T.keep _ _ _ at2 fun b _ o e => old3 b o e
  generalize upd H2 D (.dT []) = G0 at w0 I3 f3
  have I4 := block_start I3 ok nd f3
  have gB := hg s3 G0 s3.heap.objs.size (cellsFrom (s3.heap.objs.size + 1) scope.names (cloFrom X.env.cells scope.names [])) fp
  have tB := ht s3 G0 s3.heap.objs.size (cellsFrom (s3.heap.objs.size + 1) scope.names (cloFrom X.env.cells scope.names [])) fp
  have kB := hk s3 G0 s3.heap.objs.size (cellsFrom (s3.heap.objs.size + 1) scope.names (cloFrom X.env.cells scope.names [])) fp
  have vB := hv s3 G0 s3.heap.objs.size (cellsFrom (s3.heap.objs.size + 1) scope.names (cloFrom X.env.cells scope.names [])) fp
  have cL : (compEnvC scope (cellsFrom (s3.heap.objs.size + 1) scope.names (cloFrom X.env.cells scope.names [])) s3.heap.objs.size X.env).locals = s3.heap.objs.size := rfl
  show codeAny _ _ (.compStart _ 0 (.ref it) (.ref D) (compEnvC scope (cellsFrom (s3.heap.objs.size + 1) scope.names (cloFrom X.env.cells scope.names [])) s3.heap.objs.size X.env)) (compPost (model X.prog X.w) X.A X.xe use _ (.ref D) s3.heap.objs.size) { s3 with heap := pushCells (s3.heap.push { cls := .type "dict", data := .dict #[] }) scope.names }
  have at4 : tn 0 (pushCells (s3.heap.push { cls := .type "dict", data := .dict #[] }) scope.names) := T.keep _ _ _ at3 fun b _ o e => pushCells_keeps _ _ _ _ (Heap.get?_push_of_some _ e)
  generalize compEnvC scope (cellsFrom (s3.heap.objs.size + 1) scope.names (cloFrom X.env.cells scope.names [])) s3.heap.objs.size X.env = ce at I4 gB tB kB vB cL ⊢
  generalize hs4 : ({ s3 with heap := pushCells (s3.heap.push { cls := .type "dict", data := .dict #[] }) scope.names } : Shared) = s4 at I4 ⊢
  have at4 : tn 0 s4.heap := by rw [← hs4]; exact at4
  refine codeAny_compStart_dict ?_ (T.self X.A 0 _ _ _ at4 ?_) <;>
  · refine compLoop_anyD (LtAt (X.blk s3 G0 scope ce fp) (wipe σ (own.map (·.2))) fp tn W) ?_ n0 ⟨0, G0, I4, at4, w0, fun b mb => (f3 b mb).1.1⟩
    rintro n s5 ⟨j, G, I5, at5, w5, free5⟩
    rcases turn j n G w5 with ⟨stop, qq⟩ | ⟨go, Nx, down, step⟩
    · refine thnF (T.done (X.blk s3 G0 scope ce fp) rfl rfl rfl calm j [] s5 _ G _ I5 (lt_walk I5 free5) at5 stop) ?_
      rintro _ s6 ⟨rfl, I6⟩
      have I7 : Inv X pins σ G s6 := I3.call' (ch := fp) I6.os I6.base I6.hok I6.bare fun b mb => by
        obtain ⟨⟨_, z1, z2, z3, z4, z5⟩, _⟩ := f3 b mb
        exact ⟨z3, z1, z4, z5⟩
      have nC : G s3.heap.objs.size = none := by rw [← cL]; exact I6.free
      obtain ⟨m, hn, _⟩ := I6.loc
      have hn : s6.heap.Ns s3.heap.objs.size m := by rw [← cL]; exact hn
      exact fin D s3.heap.objs.size s6 m G I7 qq hn (I3.fpOk (Nat.le_refl _) nC)
    · exact dct_turn hu calm T gB tB kB vB I5 at5 free5 go down step fun u s6 k => wpAny_mono k (fun _ s7 k => wpAny_mono k (fun _ s8 k => wpAny_mono k (fun ok s9 k => by
        cases ok with
        | false => exact k
        | true => exact wpAny_mono k (fun y s10 k => wpAny_mono k (fun z s11 k => wpAny_mono k (fun _ _ k => k) fun _ _ f => f.elim) fun _ _ f => f.elim) fun _ _ f => f.elim) fun _ _ f => f.elim) fun _ _ f => f.elim) fun _ _ f => f.elim
theorem pe_dcT {wi : TI} (hu : X.A.units + 1 < cLine) (calm : X.calm = true) (nd : X.N.Nodup) (hi : PI X tg iter wi) (ok : BlkOk X.N X.env.scope scope own)
    (hg : ∀ (s : Shared) (H : Hp) (C : Addr) (cl : List (Str × Addr)) (fp : List Addr), PG (X.blk s H scope (compEnvC scope cl C X.env) fp) tg g)
    (ht : ∀ (s : Shared) (H : Hp) (C : Addr) (cl : List (Str × Addr)) (fp : List Addr), PTs (X.blk s H scope (compEnvC scope cl C X.env) fp) ifs tt)
    (hk : ∀ (s : Shared) (H : Hp) (C : Addr) (cl : List (Str × Addr)) (fp : List Addr), PE (X.blk s H scope (compEnvC scope cl C X.env) fp) kx tk)
    (hv : ∀ (s : Shared) (H : Hp) (C : Addr) (cl : List (Str × Addr)) (fp : List Addr), PE (X.blk s H scope (compEnvC scope cl C X.env) fp) vx tv)
    (fold : ∀ x, foldedSetIterable iter X.env x = pure x := by intro _; rfl) :
    PE X (.DictComp kx vx [⟨tg, iter, ifs, 0⟩] scope pos) (tDcT wi g tt tk tv (own.map (·.2))) := by
  refine ⟨fun pins s σ H Q I h => ?_⟩
  rw [arm_eval_DictComp]
  refine dct_core (use := none) I hu calm nd hi ok hg ht hk hv fold h fun D C s' m H' I' q hn f => ?_
  obtain ⟨z0, z1, z2, z3, z4, z5⟩ := f
  exact ⟨m, hn, fun h7 sb => ⟨.ref D, H', I'.turned (t' := s'.toks) (fun b o hb e => (sb.2 b hb).trans e) z0 z1 z3 z4 z5, rfl, q⟩⟩
theorem sw_dct {kx vx : Expr} {gs : List Comprehension} {scope : Scope} {pos py : Pos} {y : Str} {l : Nat} {env : Env} (hk : env.scope.kind = .function) (hy : env.scope.names.lookup y = some .local) (hl : (py.line == pos.line) = true)
    (ha : (scope.names.any fun (n, k) => n == y && (k == .local || k == .cell)) = false) : swapsWith (.DictComp kx vx gs scope pos) (some (.Name y py)) l env = pure true := by
  have ky : env.kindOf y = some .local := hy
  have hb : env.blockKind = .function := by unfold Env.blockKind; rw [hk]; rfl
  unfold swapsWith
  simp only [hb, ky, ha, Expr.pos, hl]
  rfl
/-- name = {..} on one line, the name a local -/
theorem ps_setDcT {wi : TI} {i : Nat} {y : Str} {py spos : Pos} (hy : X.N[i]? = some y) (hyl : X.env.scope.names.lookup y = some .local) (hsw : swapsWith (.DictComp kx vx [⟨tg, iter, ifs, 0⟩] scope pos) (some (.Name y py)) spos.line X.env = pure true) (hu : X.A.units + 1 < cLine) (calm : X.calm = true) (nd : X.N.Nodup) (hi : PI X tg iter wi) (ok : BlkOk X.N X.env.scope scope own)
    (hg : ∀ (s : Shared) (H : Hp) (C : Addr) (cl : List (Str × Addr)) (fp : List Addr), PG (X.blk s H scope (compEnvC scope cl C X.env) fp) tg g)
    (ht : ∀ (s : Shared) (H : Hp) (C : Addr) (cl : List (Str × Addr)) (fp : List Addr), PTs (X.blk s H scope (compEnvC scope cl C X.env) fp) ifs tt)
    (hk : ∀ (s : Shared) (H : Hp) (C : Addr) (cl : List (Str × Addr)) (fp : List Addr), PE (X.blk s H scope (compEnvC scope cl C X.env) fp) kx tk)
    (hv : ∀ (s : Shared) (H : Hp) (C : Addr) (cl : List (Str × Addr)) (fp : List Addr), PE (X.blk s H scope (compEnvC scope cl C X.env) fp) vx tv)
    (fold : ∀ x, foldedSetIterable iter X.env x = pure x := by intro _; rfl) :
    PS X (.Assign [.Name y py] (.DictComp kx vx [⟨tg, iter, ifs, 0⟩] scope pos) spos) (tAsg (tDcT wi g tt tk tv (own.map (·.2))) (gName i)) := by
  refine ⟨fun pins s σ H D I h => ?_⟩
  rw [exec_Assign_Name_used _ _ _ _ hsw]
  refine wpAny_bind (wpAny_standAt (wpAny_bind ?_))
  show wpAny _ X.A (do let _ ← comprehension (.DictComp kx vx [⟨tg, iter, ifs, 0⟩] scope pos) scope X.env (firstIterPos [⟨tg, iter, ifs, 0⟩] pos) newDict false (eval iter X.env) (some (assign (.Name y py) X.env))) _ _ s
  have h : tDcT wi g tt tk tv (own.map (·.2)) σ H (fun x H1 => gName i x σ H1 D.nx) := h
  refine wpAny_bind (thn (dct_core (Qf := fun _ s' => SP X pins D .next s') I hu calm nd hi ok hg ht hk hv fold h fun L C s' m H' I' q hn f => ?_) fun _ s' hq => wpAny_pure (wpAny_pure hq))
  obtain ⟨z0, z1, z2, z3, z4, z5⟩ := f
  refine wpAny_assign_Name (store_ok2 (v := V.ref L) I' nd hy (.inl hyl) rfl (fun s2 I2 ⟨a, sb, ha⟩ => ⟨m, hn.sameBut sb ?_, fun h3 sb3 => ?_⟩) (.inr hyl))
  · rcases ha with e | e
    · rw [e]; exact z1
    · exact fun n => z4 y a e n.symm
  · exact ⟨_, H', I2.turned (t' := s2.toks) (fun b o hb e => (sb3.2 b hb).trans e) z0 z1 z3 z4 z5, q⟩
end
end My

/-! ### what all boxes of a tree need, and what is reached so -/
namespace My
open PySem PySem.Spec PyProof.Rows L2
def namesT (t : At) : List (List Nat) := (t.pre .non).map (·.2.1)
theorem namesT_all (t : At) : namesT t = t.all.map At.nm := pre_nms t .non
mutual
theorem sub_in : ∀ (t : At) (h : V) (q : At × V), q ∈ t.subs h → ∀ b ∈ q.1.all, b ∈ t.all
  | .mk x n s o ks, h, q, m, b, mb => by
    rw [At.subs] at m
    rcases List.mem_cons.mp m with rfl | m
    · exact mb
    · rw [At.all]
      exact List.mem_cons_of_mem _ (subL_in ks (.str (sO n)) q m b mb)
theorem subL_in : ∀ (ks : List At) (h : V) (q : At × V), q ∈ subsL ks h → ∀ b ∈ q.1.all, b ∈ allL ks
  | [], h, q, m, b, mb => by rw [subsL] at m; cases m
  | k :: ks, h, q, m, b, mb => by
    rw [subsL] at m
    rw [allL]
    rcases List.mem_append.mp m with m | m
    · exact List.mem_append_left _ (sub_in k h q m b mb)
    · exact List.mem_append_right _ (subL_in ks h q m b mb)
end
theorem self_all (b : At) : b ∈ b.all := by rw [At.all_eq]; exact List.mem_cons_self
theorem kid_all {b k : At} (m : k ∈ b.kids) : k ∈ b.all := by
  rw [At.all_eq]
  exact List.mem_cons_of_mem _ (mem_allL (self_all k) m)
theorem sub_nm {t : At} {q : At × V} (m : q ∈ t.subs .non) : q.1.nm ∈ namesT t ∧ ∀ k ∈ q.1.kids, k.nm ∈ namesT t := by
  rw [namesT_all]
  exact ⟨List.mem_map_of_mem (sub_in t _ q m _ (self_all _)), fun k mk => List.mem_map_of_mem (sub_in t _ q m _ (kid_all mk))⟩
def InU (ns : List (List Nat)) (it : Item) : Prop := it.1 ∈ ns ∧ it.2 ∈ words9
section
variable {ns : List (List Nat)}
theorem allI_in {ks : List At} {w : String} (h : ∀ k ∈ ks, k.nm ∈ ns) (hw : w ∈ words9) : ∀ it ∈ allI ks w, InU ns it := fun it m => by
  unfold allI at m
  obtain ⟨k, mk, rfl⟩ := List.mem_map.mp m
  exact ⟨h k mk, hw⟩
theorem in_app {a b : List Item} (ha : ∀ it ∈ a, InU ns it) (hb : ∀ it ∈ b, InU ns it) : ∀ it ∈ a ++ b, InU ns it := fun it m => (List.mem_append.mp m).elim (ha it) (hb it)
theorem in_cons {a : Item} {b : List Item} (ha : InU ns a) (hb : ∀ it ∈ b, InU ns it) : ∀ it ∈ a :: b, InU ns it := fun it m => (List.mem_cons.mp m).elim (fun e => e ▸ ha) (hb it)
theorem in_c {n : List Nat} {w : String} {b : List Item} (hn : n ∈ ns) (hw : w ∈ words9) (hb : ∀ it ∈ b, InU ns it) : ∀ it ∈ (n, w) :: b, InU ns it := in_cons ⟨hn, hw⟩ hb
theorem in_nil : ∀ it ∈ ([] : List Item), InU ns it := fun _ m => by cases m
theorem line_in {a : At} (h : a.nm ∈ ns) (hk : ∀ k ∈ a.kids, k.nm ∈ ns) : ∀ it ∈ lineI a, InU ns it := by
  unfold lineI
  refine in_app (in_app (allI_in hk (by decide)) (allI_in (fun k m => hk k (List.mem_filter.mp m).1) (by decide))) ?_
  split
  · exact in_c h (by decide) (allI_in hk (by decide))
  · exact in_nil
theorem need_in {b : At} {ho : Option At} {zw zh : Sz} (hb : b.nm ∈ ns) (hk : ∀ k ∈ b.kids, k.nm ∈ ns) (ha : ∀ a, ho = some a → a.nm ∈ ns ∧ ∀ k ∈ a.kids, k.nm ∈ ns) (root : ho = none → zw.isPart = false ∧ zh.isPart = false)
    (tw : ∀ l sd m, zw = .tie l sd m → l ∈ ns ∧ sd ∈ words9) (th : ∀ l sd m, zh = .tie l sd m → l ∈ ns ∧ sd ∈ words9) (wd : String) (free : Bool) : ∀ it ∈ needI wd b zw zh free ho, InU ns it := by
  have one : ∀ w, w ∈ words9 → ∀ it ∈ [(b.nm, w)], InU ns it := fun w hw => in_c hb hw in_nil
  unfold needI
  split
  · unfold leastI
    split
    · exact in_nil
    · refine in_app (allI_in hk (by decide)) ?_
      split
      · exact in_nil
      · exact one _ (by decide)
  split
  · unfold wishI
    split
    · cases ho with
      | none => have := (root rfl).1; cases this
      | some a => exact in_c (ha a rfl).1 (by decide) in_nil
    · exact in_cons (tw _ _ _ rfl) in_nil
    · exact in_nil
    · refine in_app (allI_in hk (by decide)) ?_
      split
      · exact allI_in hk (by decide)
      · exact in_nil
  split
  · cases ho with
    | none => exact in_nil
    | some a =>
      obtain ⟨h1, h2⟩ := ha a rfl
      have both : ∀ it ∈ (a.nm, "wide") :: (allI a.kids "least" ++ allI a.kids "wish"), InU ns it := in_c h1 (by decide) (in_app (allI_in h2 (by decide)) (allI_in h2 (by decide)))
      unfold wideI
      dsimp only
      split
      · exact both
      split
      · exact one _ (by decide)
      split
      · exact both
      split
      · exact in_c h1 (by decide) in_nil
      · exact in_c h1 (by decide) (in_c hb (by decide) (in_c hb (by decide) in_nil))
  split
  · unfold flowI
    split
    · exact one _ (by decide)
    split
    · exact line_in hb hk
    · exact allI_in hk (by decide)
  split
  · unfold riseI
    split
    · exact one _ (by decide)
    · cases ho with
      | none => have := (root rfl).2; cases this
      | some a => exact in_c (ha a rfl).1 (by decide) in_nil
    · exact in_cons (th _ _ _ rfl) in_nil
    · exact in_nil
  split
  · cases ho with
    | none =>
      unfold tallI
      dsimp only
      split
      · exact one _ (by decide)
      · exact in_nil
    | some a =>
      obtain ⟨h1, h2⟩ := ha a rfl
      have both : ∀ it ∈ (a.nm, "tall") :: allI a.kids "rise", InU ns it := in_c h1 (by decide) (allI_in h2 (by decide))
      unfold tallI
      dsimp only
      split
      · exact both
      split
      · exact one _ (by decide)
      split
      · exact both
      split
      · exact line_in h1 h2
      · exact in_c h1 (by decide) in_nil
  split
  · unfold baseI
    split
    · exact in_nil
    · split
      · next k ks e => exact in_c (hk k (by rw [e]; exact List.mem_cons_self)) (by decide) in_nil
      · exact one _ (by decide)
  split
  · cases ho with
    | none => exact in_nil
    | some a =>
      obtain ⟨h1, h2⟩ := ha a rfl
      unfold leftI
      dsimp only
      refine in_app (in_c h1 (by decide) (in_c h1 (by decide) in_nil)) ?_
      split
      · exact one _ (by decide)
      split
      · exact in_app (allI_in h2 (by decide)) (in_app (allI_in h2 (by decide)) (one _ (by decide)))
      · refine in_app ?_ (allI_in h2 (by decide))
        split
        · exact allI_in h2 (by decide)
        · exact in_nil
  · cases ho with
    | none => exact in_nil
    | some a =>
      obtain ⟨h1, h2⟩ := ha a rfl
      unfold topI
      dsimp only
      refine in_c h1 (by decide) ?_
      split
      · exact in_c h1 (by decide) (allI_in h2 (by decide))
      · refine in_c hb (by decide) ?_
        split
        · exact in_c h1 (by decide) (allI_in h2 (by decide))
        split
        · exact line_in h1 h2
        · exact in_c h1 (by decide) (allI_in (fun k m => h2 k (List.mem_filter.mp m).1) (by decide))
end
/-- the box of one name, with all that its needs hang on -/
structure NdAt (bc : Kd → Addr) (S : Addr) (K : PySem.W.Frag) (H : Hp) (t : At) (n : List Nat) (b : At) (hv : V) (ho : Option At) (zw zh : Sz) : Prop where
  nm : b.nm = n
  me : (b.x, b.nm, hv) ∈ t.pre .non
  box : BoxAt bc S K H b
  hho : HoAt bc S K H t b hv ho
  hzw : SzV H (b.st.getD 0 .non) zw
  hzh : SzV H (b.st.getD 1 .non) zh
  root : ho = none → zw.isPart = false ∧ zh.isPart = false
  ins : ∀ wd free, ∀ it ∈ needI wd b zw zh free ho, InU (namesT t) it
theorem NdAt.ks {bc : Kd → Addr} {S : Addr} {K : PySem.W.Frag} {H H' : Hp} {t : At} {n : List Nat} {b : At} {hv : V} {ho : Option At} {zw zh : Sz} (h : NdAt bc S K H t n b hv ho zw zh) (k : KeepS H H') : NdAt bc S K H' t n b hv ho zw zh :=
  ⟨h.nm, h.me, h.box.ks k, h.hho.ks k, h.hzw.ks k, h.hzh.ks k, h.root, h.ins⟩
theorem ofS_inj {a b : String} (h : Str.ofString a = Str.ofString b) : a = b := by
  rw [Str.ofString_eq_toList, Str.ofString_eq_toList] at h
  injection h with h
  have h : a.toList.map Char.toNat = b.toList.map Char.toNat := by
    have := congrArg Array.toList h
    simpa using this
  have hc : ∀ x y : Char, x.toNat = y.toNat → x = y := fun x y e => Char.ext (UInt32.toNat_inj.mp e)
  have key : ∀ l m : List Char, l.map Char.toNat = m.map Char.toNat → l = m := by
    intro l
    induction l with
    | nil => intro m e; cases m with
      | nil => rfl
      | cons _ _ => cases e
    | cons x l ih => intro m e; cases m with
      | nil => cases e
      | cons y m =>
        injection e with e1 e2
        rw [hc x y e1, ih m e2]
  exact String.toList_inj.mp (key _ _ h)
theorem sX_inj {a b : String} (h : sX a = sX b) : a = b := by
  injection h with h
  exact ofS_inj h
theorem tie_word {H : Hp} {v : V} {l : List Nat} {sd : String} {m : Int} (a : SzV H v (.tie l sd m)) (b : SzAt H v) : sd ∈ words9 := by
  obtain ⟨p, rfl, g⟩ := a
  cases b with
  | part q n h => rw [g] at h; cases h
  | tie q l2 sd2 m2 hl hs h =>
    rw [g] at h
    injection h with h
    injection h with h
    injection h with h1 h
    injection h with h2 h
    injection h with h3 h
    have e := sX_inj h3
    rcases hs with rfl | rfl
    · rw [e]; decide
    · rw [e]; decide
theorem nd_all {bc : Kd → Addr} {S : Addr} {K : PySem.W.Frag} {H : Hp} {t : At} (hb : BoxAt bc S K H t) (tin : TreeIn H t) : ∀ n ∈ namesT t, ∃ b hv ho zw zh, NdAt bc S K H t n b hv ho zw zh := by
  intro n mn
  unfold namesT at mn
  rw [← subs_pre, List.map_map] at mn
  obtain ⟨q, mq, rfl⟩ := List.mem_map.mp mn
  have bq := sub_box t hb .non q mq
  obtain ⟨nb, nk⟩ := sub_nm mq
  have mb : q.1 ∈ t.all := sub_in t _ q mq _ (self_all _)
  have me : (q.1.x, q.1.nm, q.2) ∈ t.pre .non := by
    rw [← subs_pre]
    exact List.mem_map_of_mem (f := fun p : At × V => (p.1.x, p.1.nm, p.2)) mq
  obtain ⟨_, _, _, _, _, _, _, _, _, _, ok⟩ := bq.ob
  obtain ⟨w0, w1, w2, w3, w4, w5, w6, w7, w8, w9, eb⟩ := ten ok.1
  have s0 : SzAt H (q.1.st.getD 0 .non) := by rw [eb]; exact ok.2 0 w0 (by rw [eb]; rfl)
  have s1 : SzAt H (q.1.st.getD 1 .non) := by rw [eb]; exact ok.2 1 w1 (by rw [eb]; rfl)
  rcases sub_hold t .non q mq with rfl | ⟨r, mr, e2, mk⟩
  · obtain ⟨zw, vw, gw⟩ := tin.root.1.v
    obtain ⟨zh, vh, gh⟩ := tin.root.2.v
    have pf : ∀ z : Sz, (z.isPart = true → false = true) → z.isPart = false := fun z h => by
      cases e : z.isPart with
      | false => rfl
      | true => have := h e; cases this
    exact ⟨t, .non, none, zw, zh, rfl, me, bq, .inl ⟨rfl, rfl⟩, vw, vh, fun _ => ⟨pf zw gw.1, pf zh gh.1⟩,
      need_in nb nk (fun a e => by cases e) (fun _ => ⟨pf zw gw.1, pf zh gh.1⟩) (fun l sd m e => ⟨gw.2 l sd m e, tie_word (e ▸ vw) s0⟩) (fun l sd m e => ⟨gh.2 l sd m e, tie_word (e ▸ vh) s1⟩)⟩
  · obtain ⟨zw, vw, gw⟩ := (tin.ties q.1 mb).1.v
    obtain ⟨zh, vh, gh⟩ := (tin.ties q.1 mb).2.v
    have mer : (r.1.x, r.1.nm, r.2) ∈ t.pre .non := by
      rw [← subs_pre]
      exact List.mem_map_of_mem (f := fun p : At × V => (p.1.x, p.1.nm, p.2)) mr
    obtain ⟨nr, nrk⟩ := sub_nm mr
    exact ⟨q.1, q.2, some r.1, zw, zh, rfl, me, bq, .inr ⟨r.1, r.2, e2, mer, sub_box t hb .non r mr, rfl, mk⟩, vw, vh, (fun e => by cases e),
      need_in nb nk (fun a e => by cases e; exact ⟨nr, nrk⟩) (fun e => by cases e) (fun l sd m e => ⟨gw.2 l sd m e, tie_word (e ▸ vw) s0⟩) (fun l sd m e => ⟨gh.2 l sd m e, tie_word (e ▸ vh) s1⟩)⟩
/-! items as keys, and what is reached -/
def itK (it : Item) : List Key := [keyS it.1, .inr (Str.ofString it.2)]
theorem itK_inj {a b : Item} (h : itK a = itK b) : a = b := by
  unfold itK at h
  injection h with h1 h
  injection h with h2 _
  injection h2 with h2
  exact Prod.ext (keyS_inj h1) (ofS_inj h2)
theorem itK_kV (it : Item) : (itK it).map kV = [.str (sO it.1), sX it.2] := rfl
def rowI (r : Item → Bool) (ws : List String) (n : List Nat) : List Item := (ws.filter fun w => r (n, w)).map fun w => (n, w)
def resI (r : Item → Bool) (ws : List String) (ns : List (List Nat)) : List Item := ns.flatMap (rowI r ws)
theorem mem_resI {r : Item → Bool} {ws : List String} {ns : List (List Nat)} {it : Item} : it ∈ resI r ws ns ↔ it.1 ∈ ns ∧ it.2 ∈ ws ∧ r it = true := by
  unfold resI rowI
  rw [List.mem_flatMap]
  constructor
  · rintro ⟨n, mn, m⟩
    obtain ⟨w, mw, rfl⟩ := List.mem_map.mp m
    obtain ⟨mw, rw'⟩ := List.mem_filter.mp mw
    exact ⟨mn, mw, rw'⟩
  · rintro ⟨mn, mw, h⟩
    exact ⟨it.1, mn, List.mem_map.mpr ⟨it.2, List.mem_filter.mpr ⟨mw, h⟩, rfl⟩⟩
theorem nd_resI {r : Item → Bool} {ws : List String} (hw : ws.Nodup) : ∀ {ns : List (List Nat)}, ns.Nodup → (resI r ws ns).Nodup
  | [], _ => List.nodup_nil
  | n :: ns, h => by
    rw [List.nodup_cons] at h
    show (rowI r ws n ++ resI r ws ns).Nodup
    refine List.nodup_append.mpr ⟨?_, nd_resI hw h.2, ?_⟩
    · unfold rowI
      refine List.Pairwise.map _ ?_ (hw.filter _)
      intro a b ne e
      injection e with _ e
      exact ne e
    · intro a ma b mb e
      unfold rowI at ma
      obtain ⟨w, _, rfl⟩ := List.mem_map.mp ma
      have := (mem_resI.mp mb).1
      rw [← e] at this
      exact h.1 this
inductive Rch (N : Item → List Item) (S : List Item) : Item → Prop
  | base {it : Item} : it ∈ S → Rch N S it
  | step {a it : Item} : Rch N S a → it ∈ N a → Rch N S it
theorem Rch.le {N : Item → List Item} {S : List Item} {P : Item → Prop} (h0 : ∀ it ∈ S, P it) (h1 : ∀ a, P a → ∀ it ∈ N a, P it) {it : Item} (h : Rch N S it) : P it := by
  induction h with
  | base m => exact h0 _ m
  | step _ m ih => exact h1 _ ih _ m
def KnAt (kvs : List (List Key × V)) (kn : List Item) : Prop := (∀ it, (valV kvs (itK it)).isSome = true ↔ it ∈ kn) ∧ kvs.length = kn.length
theorem KnAt.nil : KnAt [] [] := ⟨fun it => (by
  constructor
  · intro h; cases h
  · intro h; cases h), rfl⟩
theorem KnAt.not {kvs : List (List Key × V)} {kn : List Item} {it : Item} (h : KnAt kvs kn) : it ∉ kn ↔ valV kvs (itK it) = none := by
  rw [← h.1 it]
  cases valV kvs (itK it) <;> simp
theorem KnAt.put {kvs : List (List Key × V)} {kn : List Item} {it : Item} (h : KnAt kvs kn) (v : V) (n : it ∉ kn) : KnAt (putK kvs (itK it) v) (kn ++ [it]) := by
  refine ⟨fun jt => ?_, ?_⟩
  · rw [valV_put, List.mem_append, List.mem_singleton, ← h.1 jt]
    by_cases e : jt = it
    · subst e; rw [if_pos rfl]; simp
    · rw [if_neg fun z => e (itK_inj z)]
      constructor
      · exact .inl
      · rintro (z | z)
        · exact z
        · exact absurd z e
  · rw [putK_new v (h.not.mp n), List.length_append, List.length_append, h.2]; rfl
def uniI (ns : List (List Nat)) : List Item := resI (fun _ => true) words9 ns
theorem mem_uni {ns : List (List Nat)} {it : Item} : it ∈ uniI ns ↔ InU ns it := by
  unfold uniI InU
  rw [mem_resI]
  exact ⟨fun h => ⟨h.1, h.2.1⟩, fun h => ⟨h.1, h.2, rfl⟩⟩
/-- how many are not known yet -/
def missI (ns : List (List Nat)) (kn : List Item) : Nat := ((uniI ns).filter fun it => decide (it ∉ kn)).length
theorem miss_add {ns : List (List Nat)} {kn : List Item} {it : Item} (m : InU ns it) (n : it ∉ kn) : missI ns (kn ++ [it]) + 1 ≤ missI ns kn := by
  unfold missI
  have mu := mem_uni.mpr m
  generalize uniI ns = u at mu
  have mono : ∀ v : List Item, (v.filter fun jt => decide (jt ∉ kn ++ [it])).length ≤ (v.filter fun jt => decide (jt ∉ kn)).length := by
    intro v
    induction v with
    | nil => exact Nat.le_refl _
    | cons a v ih =>
      rw [List.filter_cons, List.filter_cons]
      by_cases ha : a ∈ kn
      · rw [if_neg (by simp [ha]), if_neg (by simp [ha])]; exact ih
      · rw [if_pos (c := (decide (a ∉ kn)) = true) (by simp [ha])]
        split
        · simpa using ih
        · rw [List.length_cons]; omega
  induction u with
  | nil => cases mu
  | cons a u ih =>
    rw [List.filter_cons, List.filter_cons]
    by_cases e : a = it
    · subst e
      rw [if_neg (by simp), if_pos (by simp [n]), List.length_cons]
      have := mono u
      omega
    · have ih := ih ((List.mem_cons.mp mu).resolve_left fun z => e z.symm)
      by_cases ha : a ∈ kn
      · rw [if_neg (by simp [ha]), if_neg (by simp [ha])]; exact ih
      · rw [if_pos (by simp [ha, e]), if_pos (by simp [ha]), List.length_cons, List.length_cons]; omega
/-- the same items without doubles: as many -/
theorem same_len {a b : List Item} (ha : a.Nodup) (hb : b.Nodup) (h : ∀ it, it ∈ a ↔ it ∈ b) : a.length = b.length := (List.perm_ext_iff_of_nodup ha hb).mpr h |>.length_eq
end My

/-! ### pairs of a name and a word, listed by two clauses -/
namespace My
open PySem PySem.Spec PyProof.Rows L2
theorem len_rowI (r : Item → Bool) (ws : List String) (n : List Nat) : (rowI r ws n).length ≤ ws.length := by
  unfold rowI
  rw [List.length_map]
  exact List.length_filter_le _ _
theorem len_resI (r : Item → Bool) (ws : List String) : ∀ ns : List (List Nat), (resI r ws ns).length ≤ ns.length * ws.length
  | [] => Nat.zero_le _
  | n :: ns => by
    show (rowI r ws n ++ resI r ws ns).length ≤ _
    rw [List.length_append, List.length_cons, Nat.add_mul, Nat.one_mul]
    have := len_rowI r ws n
    have := len_resI r ws ns
    omega
theorem resI_take {r : Item → Bool} {ws : List String} {ns : List (List Nat)} {k : Nat} {n : List Nat} (h : ns[k]? = some n) : resI r ws (ns.take (k + 1)) = resI r ws (ns.take k) ++ rowI r ws n := by
  rw [List.take_add_one, h]
  unfold resI
  rw [List.flatMap_append]
  show _ ++ (rowI r ws n ++ []) = _
  rw [List.append_nil]
theorem rowI_take {r : Item → Bool} {ws : List String} {n : List Nat} {k : Nat} {w : String} (h : ws[k]? = some w) : rowI r (ws.take (k + 1)) n = rowI r (ws.take k) n ++ (if r (n, w) = true then [(n, w)] else []) := by
  rw [List.take_add_one, h]
  unfold rowI
  rw [List.filter_append, List.map_append]
  congr 1
  show List.map _ (List.filter _ [w]) = _
  rw [List.filter_cons]
  split
  · rfl
  · rfl
theorem ItmsAt.snoc {H : Hp} {vs : List V} {its : List Item} {v : V} {it : Item} (h : ItmsAt H vs its) (k : ItAt H v it) : ItmsAt H (vs ++ [v]) (its ++ [it]) := h.app (.cons k .nil)
section
variable {K : PySem.W.Frag} {a bT D : Addr} {wi1 : TI} {tt1 : TT} {te : TE} {vs vs1 : List Nat} {i j : Nat} {σ : L2.St} {H1 : Hp} {Qd : Hp → Prop}
theorem lc2It (r : Item → Bool) {ns : List (List Nat)} {ws : List String} (hD : H1 D = none) (hx : SqL K H1 a (ns.map fun l => V.str (sO l))) (hT : ∀ G, SqT K G bT (ws.map sX)) (hl : ns.length * ws.length < 100000)
    (e1 : ∀ v, wipe ((wipe σ vs).set i (some v)) vs = wipe σ vs) (e2 : ∀ v u, wipe ((wipe ((wipe σ vs).set i (some v)) vs1).set j (some u)) vs1 = wipe ((wipe σ vs).set i (some v)) vs1)
    (hwi : ∀ v G R, R (Itt K bT) G → wi1 ((wipe σ vs).set i (some v)) G R)
    (hs : ∀ n w G (Kt : V → Hp → Prop) (Kf : Hp → Prop), n ∈ ns → w ∈ ws → Same H1 G → (r (n, w) = true → ∀ p G', Same G G' → G p = none → G' p = some (.tup [.str (sO n), sX w]) → Kt (.ref p) G') → (r (n, w) = false → ∀ G', Same G G' → Kf G') →
      tt1 ((wipe ((wipe σ vs).set i (some (.str (sO n)))) vs1).set j (some (sX w))) G fun b G' => if b = true then te ((wipe ((wipe σ vs).set i (some (.str (sO n)))) vs1).set j (some (sX w))) G' Kt else Kf G')
    (hd : ∀ us G, Same H1 G → G D = some (.lst us) → ItmsAt G us (resI r ws ns) → Qd G) :
    ∃ W : Nat → Nat → Hp → Prop, (∃ m, W 0 m (upd H1 D (.lst []))) ∧ ∀ k m G, W k m G →
      ((Itl K a).stop k G ∧ Qd G) ∨ ((Itl K a).go k G ∧ ∃ Nx : Hp → Prop, (∀ G', Nx G' → ∃ m', m' < m ∧ W (k + 1) m' G') ∧ ∀ x G', (Itl K a).yld k G x G' → gName i x (wipe σ vs) G' fun σ2 G2 => wipe σ2 vs = wipe σ vs ∧ tYes σ2 G2 fun b G3 =>
        if b = true then wi1 σ2 G3 fun J1 G4 => ∃ W1 : Nat → Nat → Hp → Prop, (∃ m, W1 0 m G4) ∧ ∀ jj kk G, W1 jj kk G →
          (J1.stop jj G ∧ Nx G) ∨ (J1.go jj G ∧ ∃ Nx1 : Hp → Prop, (∀ G', Nx1 G' → ∃ k', k' < kk ∧ W1 (jj + 1) k' G') ∧ ∀ x G', J1.yld jj G x G' → gName j x (wipe σ2 vs1) G' fun σ3 G5 => wipe σ3 vs1 = wipe σ2 vs1 ∧ tt1 σ3 G5 fun b G6 =>
            if b = true then te σ3 G6 fun y G7 => ∃ acc, G7 D = some (.lst acc) ∧ acc.length < sizeLine ∧ Nx1 (upd G7 D (.lst (acc ++ [y]))) else Nx1 G6)
        else Nx G3) := by
  refine ⟨fun k m G => m = ns.length - k ∧ k ≤ ns.length ∧ Same H1 G ∧ ∃ us, G D = some (.lst us) ∧ ItmsAt G us (resI r ws (ns.take k)), ⟨ns.length, rfl, Nat.zero_le _, Same.upd0 hD, [], upd_same, .nil⟩, ?_⟩
  rintro k m G ⟨rfl, hk, s, us, gD, iu⟩
  have hxG := Same.seq s hx
  by_cases hlt : k < ns.length
  rotate_left
  · have ek : k = ns.length := by omega
    subst ek
    rw [List.take_length] at iu
    exact .inl ⟨⟨_, hxG, by rw [List.length_map]; exact Nat.le_refl _⟩, hd us G s gD iu⟩
  have hn : ns[k]? = some ns[k] := List.getElem?_eq_getElem hlt
  have hnv : (ns.map fun l => V.str (sO l))[k]? = some (.str (sO ns[k])) := by rw [List.getElem?_map, hn]; rfl
  have mn : ns[k] ∈ ns := List.getElem_mem hlt
  generalize ns[k] = n at hn hnv mn
  refine .inr ⟨⟨_, _, hxG, hnv⟩, fun G' => Same H1 G' ∧ ∃ us, G' D = some (.lst us) ∧ ItmsAt G' us (resI r ws (ns.take (k + 1))), fun G' nx => ⟨ns.length - (k + 1), by omega, rfl, by omega, nx⟩, ?_⟩
  rintro x G' ⟨rfl, hy⟩
  obtain rfl : V.str (sO n) = x := Option.some.inj (hnv.symm.trans (hy _ hxG))
  refine ⟨e1 _, ?_⟩
  unfold tYes
  simp only [if_true]
  refine hwi _ _ _ ?_
  have lk : (k + 1) * ws.length ≤ ns.length * ws.length := Nat.mul_le_mul_right _ hlt
  refine ⟨fun jj kk G => kk = ws.length - jj ∧ jj ≤ ws.length ∧ Same H1 G ∧ ∃ us, G D = some (.lst us) ∧ ItmsAt G us (resI r ws (ns.take k) ++ rowI r (ws.take jj) n), ⟨ws.length, rfl, Nat.zero_le _, s, us, gD, by rw [List.take_zero]; show ItmsAt _ _ (_ ++ []); rw [List.append_nil]; exact iu⟩, ?_⟩
  rintro jj kk G ⟨rfl, hj, sG, us, gD, iu⟩
  by_cases hjl : jj < ws.length
  rotate_left
  · have ej : jj = ws.length := by omega
    subst ej
    rw [List.take_length] at iu
    exact .inl ⟨⟨_, hT G, by rw [List.length_map]; exact Nat.le_refl _⟩, sG, us, gD, by rw [resI_take hn]; exact iu⟩
  have hw : ws[jj]? = some ws[jj] := List.getElem?_eq_getElem hjl
  have hwv : (ws.map sX)[jj]? = some (sX ws[jj]) := by rw [List.getElem?_map, hw]; rfl
  have mw : ws[jj] ∈ ws := List.getElem_mem hjl
  generalize ws[jj] = w at hw hwv mw
  have lu : us.length ≤ (k + 1) * ws.length := by
    rw [iu.1, List.length_append, Nat.add_mul, Nat.one_mul]
    have h1 := len_resI r ws (ns.take k)
    have h2 := len_rowI r (ws.take jj) n
    have h3 : (ns.take k).length * ws.length ≤ k * ws.length := Nat.mul_le_mul_right _ (by rw [List.length_take]; omega)
    have h4 : (ws.take jj).length ≤ ws.length := by rw [List.length_take]; omega
    omega
  refine .inr ⟨⟨_, _, hT G, hwv⟩, fun G' => Same H1 G' ∧ ∃ us, G' D = some (.lst us) ∧ ItmsAt G' us (resI r ws (ns.take k) ++ rowI r (ws.take (jj + 1)) n), fun G' nx => ⟨ws.length - (jj + 1), by omega, rfl, by omega, nx⟩, ?_⟩
  rintro x G' ⟨rfl, hy⟩
  obtain rfl : sX w = x := Option.some.inj (hwv.symm.trans (hy _ (hT _)))
  refine ⟨e2 _ _, ?_⟩
  refine hs n w _ _ _ mn mw sG (fun hr p G2 s2 f2 g2 => ?_) (fun hr G2 s2 => ?_)
  · have np : p ≠ D := by
      rintro rfl
      rw [gD] at f2
      cases f2
    refine ⟨us, s2 _ _ gD, by rw [sizeLine_eq]; omega, ?_⟩
    have k2 : KeepS G2 (upd G2 D (.lst (us ++ [.ref p]))) := KeepS.refl.butL (But.upd But.refl) (s2 _ _ gD)
    refine ⟨Same.mut' (sG.trans s2) (But.upd But.refl) hD, _, upd_same, ?_⟩
    rw [rowI_take hw, if_pos hr, ← List.append_assoc]
    exact ((iu.ks (Same.ks s2)).snoc (.of g2)).ks k2
  · refine ⟨sG.trans s2, us, s2 _ _ gD, ?_⟩
    rw [rowI_take hw, if_neg (by rw [hr]; decide), List.append_nil]
    exact iu.ks (Same.ks s2)
end
section
variable {K : PySem.W.Frag} {a E : Addr} {tk tv : TE} {vs : List Nat} {i : Nat} {σ : L2.St} {H1 : Hp} {Qd : Hp → Prop}
theorem dcIts {its : List Item} {us : List V} (nd : its.Nodup) (hE : H1 E = none) (hx : SqL K H1 a us) (iu : ItmsAt H1 us its) (hl : its.length < 100000)
    (e1 : ∀ v, wipe ((wipe σ vs).set i (some v)) vs = wipe σ vs) (hk : ∀ v G (F : V → Hp → Prop), F v G → tk ((wipe σ vs).set i (some v)) G F) (hv : ∀ v G (F : V → Hp → Prop), F (.bl true) G → tv ((wipe σ vs).set i (some v)) G F)
    (hd : ∀ kvs G, Same H1 G → G E = some (.dT kvs) → KnAt kvs its → Qd G) :
    ∃ W : Nat → Nat → Hp → Prop, (∃ m, W 0 m (upd H1 E (.dT []))) ∧ ∀ k m G, W k m G →
      ((Itl K a).stop k G ∧ Qd G) ∨ ((Itl K a).go k G ∧ ∃ Nx : Hp → Prop, (∀ G', Nx G' → ∃ m', m' < m ∧ W (k + 1) m' G') ∧ ∀ x G', (Itl K a).yld k G x G' → gName i x (wipe σ vs) G' fun σ2 G2 => wipe σ2 vs = wipe σ vs ∧ tYes σ2 G2 fun b G3 =>
        if b = true then tk σ2 G3 fun y G4 => tv σ2 G4 fun z G5 => ∃ kvs kk c, y = .ref c ∧ G5 c = some (.tup (kk.map kV)) ∧ G5 E = some (.dT kvs) ∧ kvs.length < sizeLine ∧ Nx (upd G5 E (.dT (putK kvs kk z))) else Nx G3) := by
  refine ⟨fun k m G => m = us.length - k ∧ k ≤ us.length ∧ Same H1 G ∧ ∃ kvs, G E = some (.dT kvs) ∧ KnAt kvs (its.take k), ⟨us.length, rfl, Nat.zero_le _, Same.upd0 hE, [], upd_same, .nil⟩, ?_⟩
  rintro k m G ⟨rfl, hk', s, kvs, gE, kn⟩
  have hxG := Same.seq s hx
  by_cases hlt : k < us.length
  rotate_left
  · have ek : k = us.length := by omega
    subst ek
    rw [iu.1, List.take_length] at kn
    exact .inl ⟨⟨_, hxG, Nat.le_refl _⟩, hd kvs G s gE kn⟩
  have hv' : us[k]? = some us[k] := List.getElem?_eq_getElem hlt
  have hi : its[k]? = some (its[k]'(by rw [← iu.1]; exact hlt)) := List.getElem?_eq_getElem (by rw [← iu.1]; exact hlt)
  have hit := iu.2 k _ _ hv' hi
  generalize us[k] = v at hv' hit
  generalize its[k]'(by rw [← iu.1]; exact hlt) = it at hi hit
  have ni : it ∉ its.take k := by
    intro m
    obtain ⟨j, hj, e⟩ := List.getElem_of_mem m
    rw [List.length_take] at hj
    rw [List.getElem_take] at e
    obtain ⟨hk2, e2⟩ := List.getElem?_eq_some_iff.mp hi
    exact List.pairwise_iff_getElem.mp nd j k (by omega) hk2 (by omega) (e.trans e2.symm)
  refine .inr ⟨⟨_, _, hxG, hv'⟩, fun G' => Same H1 G' ∧ ∃ kvs, G' E = some (.dT kvs) ∧ KnAt kvs (its.take (k + 1)), fun G' nx => ⟨us.length - (k + 1), by omega, rfl, by omega, nx⟩, ?_⟩
  rintro x G' ⟨rfl, hy⟩
  obtain rfl : v = x := Option.some.inj (hv'.symm.trans (hy _ hxG))
  refine ⟨e1 _, ?_⟩
  unfold tYes
  simp only [if_true]
  refine hk _ _ _ (hv _ _ _ ?_)
  obtain ⟨p, rfl, gp⟩ := hit
  refine ⟨kvs, itK it, p, rfl, by rw [itK_kV]; exact s _ _ gp, gE, by rw [kn.2, List.length_take, sizeLine_eq]; omega, Same.mut' s (But.upd But.refl) hE, _, upd_same, ?_⟩
  rw [List.take_add_one, hi]
  exact kn.put _ ni
end
section
variable {K : PySem.W.Frag} {a : Addr} {g : TG} {tt : TT} {te : TE} {vs : List Nat} {σ : L2.St} {H1 : Hp} {D : Addr} {Qd : Hp → Prop} {α : Type}
/-- a new pair for each item of a list that passes -/
theorem lcItF (ρ0 : α → V) (f : α → Item) (q : α → Bool) {ys : List α} (hD : H1 D = none) (hx : SqL K H1 a (ys.map ρ0)) (hn : ys.length ≤ 100000)
    (hs : ∀ (i : Nat) (y : α) (H : Hp) (Kt : V → Hp → Prop) (Kf : Hp → Prop), ys[i]? = some y → Same H1 H → (q y = true → ∀ p H4, Same H H4 → H p = none → H4 p = some (.tup [.str (sO (f y).1), sX (f y).2]) → Kt (.ref p) H4) → (q y = false → ∀ H4, Same H H4 → Kf H4) → LcT g tt te vs σ (ρ0 y) H Kt Kf)
    (hd : ∀ (us : List V) (H : Hp), Same H1 H → H D = some (.lst us) → ItmsAt H us ((ys.filter q).map f) → Qd H) : LcG (Itl K a) g tt te vs σ H1 D Qd :=
  lcL (fun i acc H' => Same H1 H' ∧ ItmsAt H' acc (((ys.take i).filter q).map f))
    (fun H' s' _ => ⟨s', .nil⟩) hD (fun i acc H' p => Same.seq p.1 hx) (fun i x acc H' Kt Kf hxi p e kk => by
      obtain ⟨y, hy, rfl⟩ := of_map hxi
      have hi := (List.getElem?_eq_some_iff.mp hy).1
      obtain ⟨dp, iu⟩ := p
      have et : ys.take (i + 1) = ys.take i ++ [y] := by rw [List.take_add_one, hy]; rfl
      have la : acc.length ≤ i := by
        rw [iu.1, List.length_map]
        have := List.length_filter_le q (ys.take i)
        rw [List.length_take] at this
        omega
      refine hs i y H' Kt Kf hy dp (fun eq p H4 s4 np gp => kk.yes _ _ (s4 _ _ e) (Nat.lt_of_lt_of_le (show _ < 100001 by omega) (by decide)) fun H5 b5 g5 => ⟨Same.mut' (dp.trans s4) b5 hD, ?_⟩) (fun eq H4 s4 => kk.no H4 (s4 _ _ e) ⟨dp.trans s4, ?_⟩)
      · rw [et, List.filter_append, List.map_append, List.filter_cons, if_pos eq]
        have k5 : KeepS H4 H5 := KeepS.refl.butL b5 (s4 _ _ e)
        exact ((iu.ks (Same.ks s4)).snoc (.of gp)).ks k5
      · rw [et, List.filter_append, List.map_append, List.filter_cons, if_neg (by rw [eq]; decide)]
        show ItmsAt _ _ (_ ++ [])
        rw [List.append_nil]
        exact iu.ks (Same.ks s4))
    (fun acc H' p e => by
      obtain ⟨dp, iu⟩ := p
      rw [List.length_map, List.take_length] at iu
      exact hd acc H' dp e iu)
def itD (it : Item) : PyData := .tuple [.str (sO it.1), .str (Str.ofString it.2)]
theorem dp_its {H : Hp} {p : Addr} {us : List V} {its : List Item} (g : SqL K H p us) (h : ItmsAt H us its) : Dp K H (.ref p) (.list (its.map itD)) :=
  .lst g (dpAll_of h.1 fun i v t a b => by
    obtain ⟨q, rfl, gq⟩ := h.2 i v t a b
    exact .tup (sqT gq) (.cons (.str _) (.cons (.str _) .nil)))
theorem strOk_nm {l : List Nat} (h : ∀ c ∈ l, c ∈ lettersL) : PyData.strOk (sO l) = true := by
  have : ∀ c ∈ l, c < 127 := fun c m => by
    have h1 := h c m
    have h2 : ∀ c ∈ lettersL, c < 127 := by decide +kernel
    exact h2 c h1
  exact strOk_iff.mpr fun c hc => by
    have := this c (by simpa [sO] using hc)
    omega
theorem its_can : ∀ its : List Item, (∀ it ∈ its, NameOk it.1) → PyData.canLayAll0 (its.map itD) = true
  | [], _ => by simp [PyData.canLayAll0]
  | it :: r, h => by
    have h1 := strOk_nm (h it List.mem_cons_self).2.2
    have h2 := strOk_of it.2
    have h3 := its_can r fun jt m => h jt (List.mem_cons_of_mem _ m)
    simp [PyData.canLayAll0, itD, PyData.canLay0, h1, h2]
    exact h3
theorem its_shaped {its : List Item} (h : ∀ it ∈ its, NameOk it.1) : SeqAt.shaped (.list (its.map itD)) = true := by
  unfold SeqAt.shaped
  rw [Bool.and_eq_true]
  refine ⟨by simp only [PyData.canLay0]; exact its_can its h, decide_eq_true ?_⟩
  have := depthAll_map (m := 1) (g := itD) (fun t => by simp [itD, PyData.depth, PyData.depthAll]) its
  simp only [PyData.depth]; omega
theorem its_same (its : List Item) : PyData.eqv (.list (its.map itD)) (.list (its.map itD)) = true := by
  have n : nob (.list (its.map itD)) = true := by
    simp only [nob]
    exact nobAll_map (fun q => by simp [itD, nob, nobAll]) its
  exact (eqv_iff n n).mpr rfl
end
end My

namespace My
open PySem PySem.Spec PyProof.Rows L2
section
variable {P : Program} {w : World} {K : PySem.W.Frag} {mg : Str → Option Value} {base : Heap}
def sp_is_whole : Sp := fun vs H Q _ => ∃ (x : V) (t : String), vs = [x] ∧ Ty7 H x t ∧ Q (.bl (isI x)) H
theorem ok_is_whole (T : Tx w K mg) : FnOk P w K mg base CX0 1 T.d_is_whole.f T.d_is_whole.fd ["thing"] (sp_is_whole) := by
  refine T.d_is_whole.F.ok sc_is_whole (fun vs H Q E h => ?_) (fun cdv A outer s H vs Q E hr h => ?_)
  · obtain ⟨x, t, rfl, _⟩ := h
    rfl
  · obtain ⟨x, t, rfl, ht, k⟩ := h
    refine ⟨_, (pss_one (ps_ret (pe_and (pe_callB is_int (by rfl) T.b_isinstance (by decide +kernel) (pa_cons (pv 0) (pa_cons (pe_bltn (v := .ty "int") (by rfl) T.b_int (by decide +kernel) rfl) pa_nil))) (pe_one (pe_not (pe_callB is_bool (by rfl) T.b_isinstance (by decide +kernel) (pa_cons (pv 0) (pa_cons (pe_bltn (v := .ty "bool") (by rfl) T.b_bool (by decide +kernel) rfl) pa_nil)))))))), ?_⟩
    tm_at "rds"
    refine ite2 (fun e => ?_) (fun e => ?_)
    · tm_at "rds"
      rw [isI_bool e]
      exact k
    · rw [isI_no e]
      exact k
end
end My
namespace My
open PySem PySem.Spec PyProof.Rows L2
section
variable {P : Program} {w : World} {K : PySem.W.Frag} {mg : Str → Option Value} {base : Heap}
def sp_is_count : Sp := fun vs H Q _ => ∃ (x : V) (t : String), vs = [x] ∧ Ty7 H x t ∧ Q (.bl (isN x)) H
theorem ok_is_count (T : Tx w K mg) : FnOk P w K mg base CX0 2 T.d_is_count.f T.d_is_count.fd ["thing"] (sp_is_count) := by
  refine T.d_is_count.F.ok sc_is_count (fun vs H Q E h => ?_) (fun cdv A outer s H vs Q E hr h => ?_)
  · obtain ⟨x, t, rfl, _⟩ := h
    rfl
  · obtain ⟨x, t, rfl, ht, k⟩ := h
    refine ⟨_, (pss_one (ps_ret (pe_and (pe_call (ok_is_whole T) (hr.mono (by decide)) (by rfl) T.d_is_whole.g T.d_is_whole.F.kp T.d_is_whole.b .nil pass0 (pa_cons (pv 0) pa_nil)) (pe_one (pe_cmpR op_ge (pv 0) pe_int (nomark _)))))), ?_⟩
    refine ⟨_, rfl, x, t, rfl, ht, ?_⟩
    tm_at "rds"
    refine ite2 (fun e => ?_) (fun e => ?_)
    · obtain ⟨i, rfl⟩ := isI_of e
      tm_at "rds"
      exact k
    · have : false = isN x := by cases x <;> simp_all [isI, isN]
      rw [this]
      exact k
end
end My
namespace My
open PySem PySem.Spec PyProof.Rows L2
section
variable {P : Program} {w : World} {K : PySem.W.Frag} {mg : Str → Option Value} {base : Heap}
def sp_is_name : Sp := fun vs H Q _ => ∃ (l : List Nat), vs = [.str (sO l)] ∧ NameOk l ∧ ∀ H', Same H H' → Q (.bl true) H'
theorem ok_is_name (T : Tx w K mg) : FnOk P w K mg base CX0 1 T.d_is_name.f T.d_is_name.fd ["thing"] (sp_is_name) := by
  refine T.d_is_name.F.ok sc_is_name (fun vs H Q E h => ?_) (fun cdv A outer s H vs Q E hr h => ?_)
  · obtain ⟨l, rfl, _⟩ := h
    rfl
  · obtain ⟨l, rfl, ⟨l1, l2, lc⟩, k⟩ := h
    refine ⟨_, (pss_cons (ps_if (PW.pt (pw_or (pt_not (pt_val (pe_callB is_str (by rfl) T.b_isinstance (by decide +kernel) (pa_cons (pv 0) (pa_cons (pe_bltn (v := .ty "str") (by rfl) T.b_str (by decide +kernel) rfl) pa_nil))))) (pw_or1 (pt_not (pt_chain op_le op_le pe_int (pe_callB (call_lenK (K := K) rfl) (by rfl) T.b_len (by decide +kernel) (pa_cons (pv 0) pa_nil)) (pe_glob (v := .int 8) (by rfl) T.v_LONGEST T.r_LONGEST))))))
      (pss_one (ps_ret pe_bl))
      pss_nil)
      (pss_one (ps_ret (pe_callB (cr_allK (K := K) rfl rfl) (by rfl) T.b_all (by decide +kernel) (pa_cons (pe_lc (own := [("sign", 1)]) (g := gName 1) (by rfl) sc_is_name.nd (pi_str (pv 0)) (blkOk_by (own := [("sign", 1)]) (N := N_is_name) (sc := defScope s_is_name) (by decide +kernel)) (fun _ _ _ _ _ => (pg_name (i := 1) sc_is_name.nd rfl (Or.inl rfl))) (fun _ _ _ _ _ => pts_nil) (fun _ _ _ _ _ => (pe_cmpR op_in_sign (pv 1) (pe_glob (v := .str (Str.ofString "abcdefghijklmnopqrstuvwxyz")) (by rfl) T.v_LETTERS T.r_LETTERS) (by rfl)))) pa_nil))))), ?_⟩
    tm_at "rzs"
    refine ⟨_, l.length, rfl, ⟨by show l.toArray.size ≤ sizeLine; rw [List.size_toArray, sizeLine_eq]; omega, by show l.length = l.toArray.size; rw [List.size_toArray]⟩, ?_⟩
    tm_at "rds"
    refine iteT' (decide_eq_true (by omega)) ?_
    tm_at "rds"
    refine iteF' (by rw [decide_eq_true (by omega)]; rfl) ?_
    tm_at "rds"
    refine fun D hD => lcSc (v := .bl true) hD (by omega) (fun i c H1 Kt Kf hc s1 kt => ?_) (fun H1 s1 g1 => ?_)
    · tm_at "rds"
      show Kt (V.bl (decide (c ∈ lettersL))) H1
      rw [decide_eq_true (lc c (List.mem_of_getElem? hc))]
      exact kt _ (Same.refl _)
    rw [reps_bl] at g1
    tm_at "rzs"
    refine ⟨D, _, rfl, sqL g1, ?_⟩
    rw [reps_all]
    exact k H1 s1
end
end My
namespace My
open PySem PySem.Spec PyProof.Rows L2
section
variable {P : Program} {w : World} {K : PySem.W.Frag} {mg : Str → Option Value} {base : Heap}
def sp_is_share : Sp := fun vs H Q _ => ∃ (x : V) (t : String), vs = [x] ∧ Ty7 H x t ∧ Q (.bl (decide (t = "tuple"))) H
theorem ok_is_share (T : Tx w K mg) : FnOk P w K mg base CX0 1 T.d_is_share.f T.d_is_share.fd ["track"] (sp_is_share) := by
  refine T.d_is_share.F.ok sc_is_share (fun vs H Q E h => ?_) (fun cdv A outer s H vs Q E hr h => ?_)
  · obtain ⟨x, t, rfl, _⟩ := h
    rfl
  · obtain ⟨x, t, rfl, ht, k⟩ := h
    refine ⟨_, (pss_one (ps_ret (pe_callB is_tuple (by rfl) T.b_isinstance (by decide +kernel) (pa_cons (pv 0) (pa_cons (pe_bltn (v := .ty "tuple") (by rfl) T.b_tuple (by decide +kernel) rfl) pa_nil))))), ?_⟩
    tm_at "rds"
    exact k
end
end My
namespace My
open PySem PySem.Spec PyProof.Rows L2
section
variable {P : Program} {w : World} {K : PySem.W.Frag} {mg : Str → Option Value} {base : Heap}
def sp_is_track : Sp := fun vs H Q _ => ∃ (x : V) (t : Tk), vs = [x] ∧ TkAt H x t ∧ t.ok ∧ Q (.bl true) H
theorem ok_is_track (T : Tx w K mg) : FnOk P w K mg base CX0 3 T.d_is_track.f T.d_is_track.fd ["thing"] (sp_is_track) := by
  refine T.d_is_track.F.ok sc_is_track (fun vs H Q E h => ?_) (fun cdv A outer s H vs Q E hr h => ?_)
  · obtain ⟨x, t, rfl, _⟩ := h
    rfl
  · obtain ⟨x, t, rfl, ht, ok, k⟩ := h
    refine ⟨_, (pss_cons (ps_if (pt_val (pe_call (ok_is_share T) (hr.mono (by decide)) (by rfl) T.d_is_share.g T.d_is_share.F.kp T.d_is_share.b .nil pass0 (pa_cons (pv 0) pa_nil)))
      (pss_one (ps_ret (pe_and (pe_cmpR op_eq (pe_callB (call_lenK (K := K) rfl) (by rfl) T.b_len (by decide +kernel) (pa_cons (pv 0) pa_nil)) pe_int (nomark _)) (pe_and (pe_cmpR op_eq (pe_ix (ix_tupK (K := K) rfl) (pv 0) pe_int (fun _ _ => rfl)) pe_str (nomark _)) (pe_and (pe_call (ok_is_whole T) (hr.mono (by decide)) (by rfl) T.d_is_whole.g T.d_is_whole.F.kp T.d_is_whole.b .nil pass0 (pa_cons (pe_ix (ix_tupK (K := K) rfl) (pv 0) pe_int (fun _ _ => rfl)) pa_nil)) (pe_one (pe_cmpR op_ge (pe_ix (ix_tupK (K := K) rfl) (pv 0) pe_int (fun _ _ => rfl)) pe_int (nomark _))))))))
      pss_nil)
      (pss_one (ps_ret (pe_or (pe_call (ok_is_count T) (hr.mono (by decide)) (by rfl) T.d_is_count.g T.d_is_count.F.kp T.d_is_count.b .nil pass0 (pa_cons (pv 0) pa_nil)) (pe_one (pe_and (pe_callB is_str (by rfl) T.b_isinstance (by decide +kernel) (pa_cons (pv 0) (pa_cons (pe_bltn (v := .ty "str") (by rfl) T.b_str (by decide +kernel) rfl) pa_nil))) (pe_one (pe_cmpR op_eq (pv 0) pe_str (nomark _))))))))), ?_⟩
    cases t with
    | cells n =>
      have e : x = .int n := ht
      subst e
      tm_at "rzs"
      refine iteT' (decide_eq_true ok) ?_
      exact k
    | fit =>
      have e : x = .str "fit" := ht
      subst e
      tm_at "rzs"
      exact k
    | share j =>
      obtain ⟨r, rfl, g⟩ := ht
      tm_at "rzs"
      dsimp only
      rw [decide_eq_true (show 1 ≤ j from ok)]
      exact k
end
end My
namespace My
open PySem PySem.Spec PyProof.Rows L2
section
variable {P : Program} {w : World} {K : PySem.W.Frag} {mg : Str → Option Value} {base : Heap}
def sp_are_tracks (K : PySem.W.Frag) : Sp := fun vs H Q _ => ∃ (a : Addr) (xs : List V) (ts : List Tk), vs = [.ref a] ∧ H a = some (.lst xs) ∧ TksAt H xs ts ∧ (∀ t ∈ ts, t.ok) ∧ ts ≠ [] ∧ ts.length ≤ 1000 ∧ ∀ H', Same H H' → Q (.bl true) H'
theorem ok_are_tracks (T : Tx w K mg) : FnOk P w K mg base CX0 4 T.d_are_tracks.f T.d_are_tracks.fd ["thing"] (sp_are_tracks K) := by
  refine T.d_are_tracks.F.ok sc_are_tracks (fun vs H Q E h => ?_) (fun cdv A outer s H vs Q E hr h => ?_)
  · obtain ⟨a, xs, ts, rfl, _⟩ := h
    rfl
  · obtain ⟨a, xs, ts, rfl, ha, hts, ok, ne, hn, k⟩ := h
    refine ⟨_, (pss_one (ps_ret (pe_and (pe_callB is_list (by rfl) T.b_isinstance (by decide +kernel) (pa_cons (pv 0) (pa_cons (pe_bltn (v := .ty "list") (by rfl) T.b_list (by decide +kernel) rfl) pa_nil))) (pe_and (pe_cmpR (op_neDK (K := K) hr.units rfl) (pv 0) (pe_lstA pa_nil) (nomark _)) (pe_one (pe_callB (cr_allK (K := K) rfl rfl) (by rfl) T.b_all (by decide +kernel) (pa_cons (pe_lc (own := [("track", 1)]) (g := gName 1) (by rfl) sc_are_tracks.nd (pi_listK (K := K) rfl (pv 0)) (blkOk_by (own := [("track", 1)]) (N := N_are_tracks) (sc := defScope s_are_tracks) (by decide +kernel)) (fun _ _ _ _ _ => (pg_name (i := 1) sc_are_tracks.nd rfl (Or.inl rfl))) (fun _ _ _ _ _ => pts_nil) (fun _ _ _ _ _ => (pe_call (ok_is_track T) (hr.mono (by decide)) (by rfl) T.d_is_track.g T.d_is_track.F.kp T.d_is_track.b .nil pass0 (pa_cons (pv 1) pa_nil)))) pa_nil))))))), ?_⟩
    tm_at "rzs"
    intro p H1 f1 s1 g1
    have ha1 := s1 _ _ ha
    refine ⟨_, _, .lst (sqL ha1) (dp_tks (hts.mono s1)), .lst (xs := []) (sqL g1) .nil, tks_shaped _, by decide +kernel, ?_⟩
    have e0 : PyData.eqv (.list (ts.map tkD)) (.list []) = false := by
      cases ts with
      | nil => exact absurd rfl ne
      | cons t ts => simp [PyData.eqv, PyData.eqvAll]
    rw [e0]
    tm_at "rzs"
    refine ⟨⟨_, sqL ha1⟩, fun D hD => lcLx (K := K) (xs := xs) (fun _ => .bl true) hD (sqL ha1) (by rw [hts.1]; omega) (fun i x H2 Kt Kf hx s2 kk => ?_) (fun H2 s2 g2 => ?_)⟩
    · obtain ⟨t, ht, hat⟩ := hts.at' hx
      have hat2 := hat.mono (s1.trans s2)
      have okt := ok t (List.mem_of_getElem? ht)
      tm_at "rzs"
      exact kk _ (Same.refl _)
    rw [bls _ fun _ => true] at g2
    tm_at "rzs"
    refine ⟨D, _, rfl, sqL g2, ?_⟩
    rw [all_true]
    exact k _ (s1.trans s2)
end
end My
namespace My
open PySem PySem.Spec PyProof.Rows L2
section
variable {P : Program} {w : World} {K : PySem.W.Frag} {mg : Str → Option Value} {base : Heap}
def sp_is_stretch : Sp := fun vs H Q _ => ∃ (f m : V) (n : Int) (t1 t2 : String), vs = [f, m, .int n] ∧ Ty7 H f t1 ∧ Ty7 H m t2 ∧ Q (.bl (strchB f m n)) H
theorem ok_is_stretch (T : Tx w K mg) : FnOk P w K mg base CX0 3 T.d_is_stretch.f T.d_is_stretch.fd ["first", "many", "count"] (sp_is_stretch) := by
  refine T.d_is_stretch.F.ok sc_is_stretch (fun vs H Q E h => ?_) (fun cdv A outer s H vs Q E hr h => ?_)
  · obtain ⟨f, m, n, t1, t2, rfl, _⟩ := h
    rfl
  · obtain ⟨f, m, n, t1, t2, rfl, h1, h2, k⟩ := h
    refine ⟨_, (pss_one (ps_ret (pe_and (pe_call (ok_is_count T) (hr.mono (by decide)) (by rfl) T.d_is_count.g T.d_is_count.F.kp T.d_is_count.b .nil pass0 (pa_cons (pv 0) pa_nil)) (pe_and (pe_call (ok_is_whole T) (hr.mono (by decide)) (by rfl) T.d_is_whole.g T.d_is_whole.F.kp T.d_is_whole.b .nil pass0 (pa_cons (pv 1) pa_nil)) (pe_and (pe_cmpR op_ge (pv 1) pe_int (nomark _)) (pe_one (pe_cmpR op_le (pe_op op_add (pv 0) (pv 1)) (pv 2) (nomark _)))))))), ?_⟩
    tm_at "rzs"
    have kk : ∀ b : Bool, b = strchB f m n → Q (.bl b) H := fun b e => by rw [e]; exact k
    by_cases e1 : isN f = true
    · obtain ⟨a, rfl, a0⟩ : ∃ a : Int, f = .int a ∧ 0 ≤ a := by cases f <;> simp_all [isN]
      refine iteT' e1 ?_
      tm_at "rzs"
      by_cases e2 : isI m = true
      · obtain ⟨b, rfl⟩ := isI_of e2
        refine iteT' e2 ?_
        tm_at "rzs"
        by_cases e3 : 1 ≤ b
        · refine iteT' (decide_eq_true e3) ?_
          tm_at "rzs"
          refine kk _ ?_
          show _ = (decide (0 ≤ a) && (decide (1 ≤ b) && decide (a + b ≤ n)))
          rw [decide_eq_true a0, decide_eq_true e3]
          simp
        · refine iteF' (decide_eq_false e3) ?_
          refine kk _ ?_
          show _ = (decide (0 ≤ a) && (decide (1 ≤ b) && decide (a + b ≤ n)))
          rw [decide_eq_false e3]
          simp
      · have e2 : isI m = false := by simpa using e2
        refine iteF' e2 ?_
        refine kk _ ?_
        cases m <;> simp_all [isI, strchB]
    · have e1 : isN f = false := by simpa using e1
      refine iteF' e1 ?_
      refine kk _ ?_
      cases f with
      | int a =>
        have a0 : ¬ 0 ≤ a := fun h => by rw [show isN (.int a) = decide (0 ≤ a) from rfl, decide_eq_true h] at e1; cases e1
        cases m <;> simp [strchB, a0]
      | _ => rfl
end
end My
namespace My
open PySem PySem.Spec PyProof.Rows L2
section
variable {P : Program} {w : World} {K : PySem.W.Frag} {mg : Str → Option Value} {base : Heap}
def sp_is_spot : Sp := fun vs H Q _ => ∃ (v : V) (o : Option (List V)) (c r : Int), vs = [v, .int c, .int r] ∧ ThAt H v o ∧ Q (.bl (spotB c r o)) H
theorem ok_is_spot (T : Tx w K mg) : FnOk P w K mg base CX0 4 T.d_is_spot.f T.d_is_spot.fd ["thing", "columns", "rows"] (sp_is_spot) := by
  refine T.d_is_spot.F.ok sc_is_spot (fun vs H Q E h => ?_) (fun cdv A outer s H vs Q E hr h => ?_)
  · obtain ⟨v, o, c, r, rfl, _⟩ := h
    rfl
  · obtain ⟨v, o, c, r, rfl, hv, k⟩ := h
    refine ⟨_, (pss_cons (ps_if (PW.pt (pw_or (pt_not (pt_val (pe_callB is_tuple (by rfl) T.b_isinstance (by decide +kernel) (pa_cons (pv 0) (pa_cons (pe_bltn (v := .ty "tuple") (by rfl) T.b_tuple (by decide +kernel) rfl) pa_nil))))) (pw_or1 (pt_cmpR op_ne (pe_callB (call_lenK (K := K) rfl) (by rfl) T.b_len (by decide +kernel) (pa_cons (pv 0) pa_nil)) pe_int (nomark _)))))
      (pss_one (ps_ret pe_bl))
      pss_nil)
      (pss_one (ps_ret (pe_and (pe_call (ok_is_stretch T) (hr.mono (by decide)) (by rfl) T.d_is_stretch.g T.d_is_stretch.F.kp T.d_is_stretch.b .nil pass0 (pa_cons (pe_ix (ix_tupK (K := K) rfl) (pv 0) pe_int (fun _ _ => rfl)) (pa_cons (pe_ix (ix_tupK (K := K) rfl) (pv 0) pe_int (fun _ _ => rfl)) (pa_cons (pv 1) pa_nil)))) (pe_one (pe_call (ok_is_stretch T) (hr.mono (by decide)) (by rfl) T.d_is_stretch.g T.d_is_stretch.F.kp T.d_is_stretch.b .nil pass0 (pa_cons (pe_ix (ix_tupK (K := K) rfl) (pv 0) pe_int (fun _ _ => rfl)) (pa_cons (pe_ix (ix_tupK (K := K) rfl) (pv 0) pe_int (fun _ _ => rfl)) (pa_cons (pv 2) pa_nil))))))))), ?_⟩
    tm_at "rzs"
    cases hv with
    | other v t h n =>
      refine ⟨v, t, rfl, h, ?_⟩
      have e : decide (t = "tuple") = false := decide_eq_false n
      refine ⟨_, rfl, ?_⟩
      show if (!decide (t = "tuple")) = true then _ else _
      rw [e]
      tm_at "rzs"
      exact k
    | tup a xs h hx =>
      refine ⟨_, _, rfl, .tup h, ?_⟩
      tm_at "rzs"
      by_cases e4 : xs.length = 4
      · obtain ⟨x, y, w, d, rfl⟩ := four e4
        obtain ⟨tx, hx0⟩ := hx x (by simp)
        obtain ⟨ty, hy0⟩ := hx y (by simp)
        obtain ⟨tw, hw0⟩ := hx w (by simp)
        obtain ⟨td, hd0⟩ := hx d (by simp)
        tm_at "rzs"
        refine ⟨x, w, c, tx, tw, rfl, hx0, hw0, ?_⟩
        tm_at "rzs"
        have kk : ∀ b : Bool, b = (strchB x w c && strchB y d r) → Q (.bl b) H := fun b e => by rw [e]; exact k
        cases e : strchB x w c with
        | true =>
          rw [e] at kk
          tm_at "rzs"
          refine ⟨y, d, r, ty, td, rfl, hy0, hd0, ?_⟩
          tm_at "rzs"
          exact kk _ (by simp)
        | false =>
          rw [e] at kk
          refine iteF' rfl ?_
          tm_at "rzs"
          exact kk _ (by simp)
      · refine iteT' (by rw [int_inj_dec, decide_eq_false (by omega)]; rfl) ?_
        tm_at "rzs"
        have e : spotB c r (some xs) = false := by
          unfold spotB
          split
          · rename_i e; cases e; exact absurd rfl e4
          · rfl
        rw [e] at k
        exact k
end
end My
namespace My
open PySem PySem.Spec PyProof.Rows L2
section
variable {P : Program} {w : World} {K : PySem.W.Frag} {mg : Str → Option Value} {base : Heap}
def sp_apart : Sp := fun vs H Q _ => ∃ (a b : Addr) (x y w d x' y' w' d' : Int), vs = [.ref a, .ref b] ∧ H a = some (.tup [.int x, .int y, .int w, .int d]) ∧ H b = some (.tup [.int x', .int y', .int w', .int d']) ∧ Q (.bl (apartI x y w d x' y' w' d')) H
theorem ok_apart (T : Tx w K mg) : FnOk P w K mg base CX0 1 T.d_apart.f T.d_apart.fd ["one", "other"] (sp_apart) := by
  refine T.d_apart.F.ok sc_apart (fun vs H Q E h => ?_) (fun cdv A outer s H vs Q E hr h => ?_)
  · obtain ⟨a, b, x, y, w, d, x', y', w', d', rfl, _⟩ := h
    rfl
  · obtain ⟨a, b, x, y, w, d, x', y', w', d', rfl, ha, hb, k⟩ := h
    refine ⟨_, (pss_cons (ps_set (i := 2) sc_apart.nd rfl (Or.inl rfl) (pe_or (pe_cmpR op_le (pe_op op_add (pe_ix (ix_tupK (K := K) rfl) (pv 0) pe_int (fun _ _ => rfl)) (pe_ix (ix_tupK (K := K) rfl) (pv 0) pe_int (fun _ _ => rfl))) (pe_ix (ix_tupK (K := K) rfl) (pv 1) pe_int (fun _ _ => rfl)) (nomark _)) (pe_one (pe_cmpR op_le (pe_op op_add (pe_ix (ix_tupK (K := K) rfl) (pv 1) pe_int (fun _ _ => rfl)) (pe_ix (ix_tupK (K := K) rfl) (pv 1) pe_int (fun _ _ => rfl))) (pe_ix (ix_tupK (K := K) rfl) (pv 0) pe_int (fun _ _ => rfl)) (nomark _)))))
      (pss_one (ps_ret (pe_or (pv 2) (pe_or (pe_cmpR op_le (pe_op op_add (pe_ix (ix_tupK (K := K) rfl) (pv 0) pe_int (fun _ _ => rfl)) (pe_ix (ix_tupK (K := K) rfl) (pv 0) pe_int (fun _ _ => rfl))) (pe_ix (ix_tupK (K := K) rfl) (pv 1) pe_int (fun _ _ => rfl)) (nomark _)) (pe_one (pe_cmpR op_le (pe_op op_add (pe_ix (ix_tupK (K := K) rfl) (pv 1) pe_int (fun _ _ => rfl)) (pe_ix (ix_tupK (K := K) rfl) (pv 1) pe_int (fun _ _ => rfl))) (pe_ix (ix_tupK (K := K) rfl) (pv 0) pe_int (fun _ _ => rfl)) (nomark _)))))))), ?_⟩
    tm_at "rzs"
    have kk : ∀ b : Bool, b = apartI x y w d x' y' w' d' → Q (.bl b) H := fun b e => by rw [e]; exact k
    by_cases e1 : x + w ≤ x'
    · refine iteT' (decide_eq_true e1) ?_
      tm_at "rzs"
      exact kk _ (by unfold apartI; rw [decide_eq_true e1]; rfl)
    refine iteF' (decide_eq_false e1) ?_
    tm_at "rzs"
    by_cases e2 : x' + w' ≤ x
    · refine iteT' (decide_eq_true e2) ?_
      exact kk _ (by unfold apartI; rw [decide_eq_true e2]; simp)
    refine iteF' (decide_eq_false e2) ?_
    tm_at "rzs"
    by_cases e3 : y + d ≤ y'
    · refine iteT' (decide_eq_true e3) ?_
      exact kk _ (by unfold apartI; rw [decide_eq_true e3]; simp)
    refine iteF' (decide_eq_false e3) ?_
    tm_at "rzs"
    refine kk _ ?_
    unfold apartI
    rw [decide_eq_false e1, decide_eq_false e2, decide_eq_false e3]
    simp
end
end My
namespace My
open PySem PySem.Spec PyProof.Rows L2
section
variable {P : Program} {w : World} {K : PySem.W.Frag} {mg : Str → Option Value} {base : Heap}
def sp_may_stand : Sp := fun vs H Q _ => ∃ (v : V) (b : Addr) (o : Option (List V)) (ws : List V) (pre : List (Option (List V))) (c r : Int), vs = [v, .ref b, .int c, .int r] ∧ ThAt H v o ∧ H b = some (.lst ws) ∧ ThsAt H ws pre ∧ (∀ p ∈ pre, spotB c r p = true) ∧ pre.length ≤ 1000 ∧ ∀ H', Same H H' → Q (.bl (spotB c r o && pre.all (apartO o))) H'
theorem ok_may_stand (T : Tx w K mg) : FnOk P w K mg base CX0 5 T.d_may_stand.f T.d_may_stand.fd ["spot", "spots", "columns", "rows"] (sp_may_stand) := by
  refine T.d_may_stand.F.ok sc_may_stand (fun vs H Q E h => ?_) (fun cdv A outer s H vs Q E hr h => ?_)
  · obtain ⟨v, b, o, ws, pre, c, r, rfl, _⟩ := h
    rfl
  · obtain ⟨v, b, o, ws, pre, c, r, rfl, hv, hb, hp, hok, hl, k⟩ := h
    refine ⟨_, (pss_one (ps_ret (pe_and (pe_call (ok_is_spot T) (hr.mono (by decide)) (by rfl) T.d_is_spot.g T.d_is_spot.F.kp T.d_is_spot.b .nil pass0 (pa_cons (pv 0) (pa_cons (pv 2) (pa_cons (pv 3) pa_nil)))) (pe_one (pe_callB (cr_allK (K := K) rfl rfl) (by rfl) T.b_all (by decide +kernel) (pa_cons (pe_lc (own := [("one", 4)]) (g := gName 4) (by rfl) sc_may_stand.nd (pi_listK (K := K) rfl (pv 1)) (blkOk_by (own := [("one", 4)]) (N := N_may_stand) (sc := defScope s_may_stand) (by decide +kernel)) (fun _ _ _ _ _ => (pg_name (i := 4) sc_may_stand.nd rfl (Or.inl rfl))) (fun _ _ _ _ _ => pts_nil) (fun _ _ _ _ _ => (pe_call (ok_apart T) (hr.mono (by decide)) (by rfl) T.d_apart.g T.d_apart.F.kp T.d_apart.b .nil pass0 (pa_cons (pv 0) (pa_cons (pv 4) pa_nil))))) pa_nil)))))), ?_⟩
    tm_at "rzs"
    refine ⟨v, o, c, r, rfl, hv, ?_⟩
    tm_at "rzs"
    have kk : ∀ (b : Bool) H', Same H H' → b = (spotB c r o && pre.all (apartO o)) → Q (.bl b) H' := fun b H' s e => by rw [e]; exact k H' s
    by_cases e1 : spotB c r o = true
    rotate_left
    · have e1 : spotB c r o = false := by simpa using e1
      refine iteF' e1 ?_
      exact kk _ _ (Same.refl _) (by rw [e1]; rfl)
    refine iteT' e1 ?_
    obtain ⟨x, y, w, d, ho, -⟩ := spot_int e1
    subst ho
    obtain ⟨a, rfl, ha⟩ := hv.four
    tm_at "rzs"
    refine ⟨⟨_, sqL hb⟩, fun D hD => lcLx (K := K) (xs := ws) (fun i => .bl (apartO (four4 x y w d) (pre.getD i none))) hD (sqL hb) (by rw [hp.1]; omega) (fun i z H2 Kt Kf hx s2 kq => ?_) (fun H2 s2 g2 => ?_)⟩
    · obtain ⟨q, hq⟩ : ∃ q, pre[i]? = some q := ⟨_, List.getElem?_eq_getElem (by have := (List.getElem?_eq_some_iff.mp hx).1; have := hp.1; omega)⟩
      have hz := hp.2 i z q hx hq
      obtain ⟨x', y', w', d', e, -⟩ := spot_int (hok q (List.mem_of_getElem? hq))
      subst e
      obtain ⟨a', rfl, ha'⟩ := hz.four
      have kq' := kq H2 (Same.refl _)
      have eq : pre.getD i none = four4 x' y' w' d' := by rw [List.getD_eq_getElem?_getD, hq]; rfl
      rw [eq] at kq'
      tm_at "rzs"
      refine ⟨a, a', x, y, w, d, x', y', w', d', rfl, s2 _ _ ha, s2 _ _ ha', ?_⟩
      tm_at "rzs"
      exact kq'
    rw [bls _ fun i => apartO (four4 x y w d) (pre.getD i none)] at g2
    tm_at "rzs"
    refine ⟨D, _, rfl, sqL g2, ?_⟩
    refine kk _ _ s2 ?_
    rw [e1, hp.1, all_getD pre]
    rfl
end
end My
namespace My
open PySem PySem.Spec PyProof.Rows L2
section
variable {P : Program} {w : World} {K : PySem.W.Frag} {mg : Str → Option Value} {base : Heap}
def sp_are_spots : Sp := fun vs H Q _ => ∃ (a : Addr) (ws : List V) (os : List (Option (List V))) (m : Nat) (c r : Int), vs = [.ref a, .int (m : Int), .int c, .int r] ∧ H a = some (.lst ws) ∧ ThsAt H ws os ∧ os.length ≤ 1000 ∧ ∀ H', Same H H' → Q (.bl (decide (os.length = m) && stB c r [] os)) H'
theorem ok_are_spots (T : Tx w K mg) : FnOk P w K mg base CX0 6 T.d_are_spots.f T.d_are_spots.fd ["thing", "many", "columns", "rows"] (sp_are_spots) := by
  refine T.d_are_spots.F.ok sc_are_spots (fun vs H Q E h => ?_) (fun cdv A outer s H vs Q E hr h => ?_)
  · obtain ⟨a, ws, os, m, c, r, rfl, _⟩ := h
    rfl
  · obtain ⟨a, ws, os, m, c, r, rfl, ha, ho, hl, k⟩ := h
    refine ⟨_, (pss_cons (ps_if (PW.pt (pw_or (pt_not (pt_val (pe_callB is_list (by rfl) T.b_isinstance (by decide +kernel) (pa_cons (pv 0) (pa_cons (pe_bltn (v := .ty "list") (by rfl) T.b_list (by decide +kernel) rfl) pa_nil))))) (pw_or1 (pt_cmpR op_ne (pe_callB (call_lenK (K := K) rfl) (by rfl) T.b_len (by decide +kernel) (pa_cons (pv 0) pa_nil)) (pv 1) (nomark _)))))
      (pss_one (ps_ret pe_bl))
      pss_nil)
      (pss_cons (ps_for PassesOwn.never (by rfl) (pi_enumK (K := K) rfl (by rfl) T.b_enumerate (pa_cons (pv 0) pa_nil)) (pg_tup (by rfl) (pgs_cons (pg_name (i := 4) sc_are_spots.nd rfl (Or.inl rfl)) (pgs_cons (pg_name (i := 5) sc_are_spots.nd rfl (Or.inl rfl)) pgs_nil)))
      (pss_one (ps_if (pt_not (pt_val (pe_call (ok_may_stand T) (hr.mono (by decide)) (by rfl) T.d_may_stand.g T.d_may_stand.F.kp T.d_may_stand.b .nil pass0 (pa_cons (pv 5) (pa_cons (pe_slice (sl_listK (K := K) rfl) (pv 0) po_none (po_some (pv 4))) (pa_cons (pv 2) (pa_cons (pv 3) pa_nil)))))))
      (pss_one (ps_ret pe_bl))
      pss_nil)))
      (pss_one (ps_ret pe_bl)))), ?_⟩
    tm_at "rzs"
    have kk : ∀ (b : Bool) H', Same H H' → b = (decide (os.length = m) && stB c r [] os) → Q (.bl b) H' := fun b H' s e => by rw [e]; exact k H' s
    by_cases e0 : os.length = m
    rotate_left
    · refine iteT' (by rw [int_inj_dec, decide_eq_false (by rw [ho.1]; omega)]; rfl) ?_
      tm_at "rzs"
      exact kk _ _ (Same.refl _) (by rw [decide_eq_false e0]; rfl)
    refine iteF' (by rw [int_inj_dec, decide_eq_true (by rw [ho.1]; omega)]; rfl) ?_
    tm_at "rzs"
    have nd : ∀ p o, os[p]? = some o → (∀ q ∈ os.take p, spotB c r q = true) → (spotB c r o && (os.take p).all (apartO o)) = false → stB c r [] os = false := fun p o hp _ hf => by
      cases e : stB c r [] os with
      | false => rfl
      | true => have := (stB_step os []).mp e p o hp; rw [List.nil_append, hf] at this; cases this
    refine ⟨a, _, rfl, sqL ha, for_enum (K := K) (xs := ws) (fun p σ H' => ∃ v4 v5 : Option V, σ = [some (.ref a), some (.int (m : Int)), some (.int c), some (.int r), v4, v5] ∧ Same H H' ∧ ∀ i o, i < p → os[i]? = some o → (spotB c r o && (os.take i).all (apartO o)) = true)
      ⟨none, none, rfl, Same.refl _, fun i o h => absurd h (Nat.not_lt_zero i)⟩ (fun p σ H' ⟨_, _, _, b, _⟩ => sqL (b _ _ ha)) ?_ ?_⟩
    · rintro p x T1 σ H3 H4 hx ⟨v4, v5, rfl, b3, g3⟩ nT sT gT
      obtain ⟨o, hq⟩ : ∃ q, os[p]? = some q := ⟨_, List.getElem?_eq_getElem (by have := (List.getElem?_eq_some_iff.mp hx).1; have := ho.1; omega)⟩
      have hp := (List.getElem?_eq_some_iff.mp hq).1
      have hz := (ho.2 p x o hx hq).same (b3.trans sT)
      have ha4 := sT _ _ (b3 _ _ ha)
      have hall : ∀ q ∈ os.take p, spotB c r q = true := fun q mq => by
        obtain ⟨i, hi, rfl⟩ := List.mem_iff_getElem.mp mq
        rw [List.length_take] at hi
        have hg := g3 i os[i] (by omega) (List.getElem?_eq_getElem (by omega))
        rw [Bool.and_eq_true] at hg
        rw [List.getElem_take]
        exact hg.1
      refine ⟨_, _, rfl, sqT gT, rfl, ?_⟩
      tm_at "rzs"
      refine ⟨a, _, rfl, sqL ha4, fun p2 H5 f5 s5 g5 => ?_⟩
      tm_at "rzs"
      rw [cutV_take] at g5
      have hz5 := hz.same s5
      tm_at "rzs"
      refine ⟨x, p2, o, ws.take p, os.take p, c, r, rfl, hz5, g5, (ho.take p).same (b3.trans (sT.trans s5)), hall, by rw [List.length_take]; omega, fun H6 s6 => ?_⟩
      tm_at "rzs"
      have s06 := b3.trans (sT.trans (s5.trans s6))
      cases e : (spotB c r o && (os.take p).all (apartO o)) with
      | true =>
        refine iteF' rfl ?_
        refine ⟨_, _, rfl, s06, fun i q hi hq2 => ?_⟩
        rcases Nat.lt_or_ge i p with h | h
        · exact g3 i q h hq2
        · obtain rfl : i = p := by omega
          obtain rfl : q = o := Option.some.inj (hq2.symm.trans hq)
          exact e
      | false =>
        refine iteT' rfl ?_
        tm_at "rzs"
        exact kk _ _ s06 (by rw [nd p o hq hall e]; simp)
    · rintro σ H3 ⟨v4, v5, rfl, b3, g3⟩
      tm_at "rzs"
      refine kk _ _ b3 ?_
      rw [decide_eq_true e0, (stB_step os []).mpr fun p o hp => by rw [List.nil_append]; exact g3 p o (by rw [ho.1]; exact (List.getElem?_eq_some_iff.mp hp).1) hp]
      rfl
end
end My
namespace My
open PySem PySem.Spec PyProof.Rows L2
section
variable {P : Program} {w : World} {K : PySem.W.Frag} {mg : Str → Option Value} {base : Heap}
def sp_is_part : Sp := fun vs H Q _ => ∃ (v : V), vs = [v] ∧ ((∃ t, Ty7 H v t ∧ t ≠ "tuple" ∧ Q (.bl false) H) ∨ ∃ (a : Addr) (xs : List V), v = .ref a ∧ H a = some (.tup xs) ∧ Q (.bl (decide (xs.length = 2))) H)
theorem ok_is_part (T : Tx w K mg) : FnOk P w K mg base CX0 1 T.d_is_part.f T.d_is_part.fd ["size"] (sp_is_part) := by
  refine T.d_is_part.F.ok sc_is_part (fun vs H Q E h => ?_) (fun cdv A outer s H vs Q E hr h => ?_)
  · obtain ⟨v, rfl, _⟩ := h
    rfl
  · obtain ⟨v, rfl, k⟩ := h
    refine ⟨_, (pss_one (ps_ret (pe_and (pe_callB is_tuple (by rfl) T.b_isinstance (by decide +kernel) (pa_cons (pv 0) (pa_cons (pe_bltn (v := .ty "tuple") (by rfl) T.b_tuple (by decide +kernel) rfl) pa_nil))) (pe_one (pe_cmpR op_eq (pe_callB (call_lenK (K := K) rfl) (by rfl) T.b_len (by decide +kernel) (pa_cons (pv 0) pa_nil)) pe_int (nomark _)))))), ?_⟩
    tm_at "rzs"
    rcases k with ⟨t, ht, hn, k⟩ | ⟨a, xs, rfl, ha, k⟩
    · refine ⟨v, t, rfl, ht, ?_⟩
      have e : decide (t = "tuple") = false := decide_eq_false hn
      refine ⟨_, rfl, ?_⟩
      show if decide (t = "tuple") = true then _ else _
      rw [e]
      tm_at "rzs"
      exact k
    · refine ⟨_, _, rfl, .tup ha, ?_⟩
      tm_at "rzs"
      rw [show decide (V.int (xs.length : Int) = V.int 2) = decide (xs.length = 2) from by rw [int_inj_dec]; exact decide_eq_decide.mpr (by omega)]
      exact k
theorem isPartP {H : Hp} {v : V} {p : Bool} {Q : VK} {E : XK} (h : PtAt 2 H v p) (q : Q (.bl p) H) : sp_is_part [v] H Q E := ⟨v, rfl, h.is q⟩
end
end My
namespace My
open PySem PySem.Spec PyProof.Rows L2
section
variable {P : Program} {w : World} {K : PySem.W.Frag} {mg : Str → Option Value} {base : Heap}
def sp_is_tie : Sp := fun vs H Q _ => ∃ (v : V), vs = [v] ∧ ((∃ t, Ty7 H v t ∧ t ≠ "tuple" ∧ Q (.bl false) H) ∨ ∃ (a : Addr) (xs : List V), v = .ref a ∧ H a = some (.tup xs) ∧ Q (.bl (decide (xs.length = 4))) H)
theorem ok_is_tie (T : Tx w K mg) : FnOk P w K mg base CX0 1 T.d_is_tie.f T.d_is_tie.fd ["size"] (sp_is_tie) := by
  refine T.d_is_tie.F.ok sc_is_tie (fun vs H Q E h => ?_) (fun cdv A outer s H vs Q E hr h => ?_)
  · obtain ⟨v, rfl, _⟩ := h
    rfl
  · obtain ⟨v, rfl, k⟩ := h
    refine ⟨_, (pss_one (ps_ret (pe_and (pe_callB is_tuple (by rfl) T.b_isinstance (by decide +kernel) (pa_cons (pv 0) (pa_cons (pe_bltn (v := .ty "tuple") (by rfl) T.b_tuple (by decide +kernel) rfl) pa_nil))) (pe_one (pe_cmpR op_eq (pe_callB (call_lenK (K := K) rfl) (by rfl) T.b_len (by decide +kernel) (pa_cons (pv 0) pa_nil)) pe_int (nomark _)))))), ?_⟩
    tm_at "rzs"
    rcases k with ⟨t, ht, hn, k⟩ | ⟨a, xs, rfl, ha, k⟩
    · refine ⟨v, t, rfl, ht, ?_⟩
      have e : decide (t = "tuple") = false := decide_eq_false hn
      refine ⟨_, rfl, ?_⟩
      show if decide (t = "tuple") = true then _ else _
      rw [e]
      tm_at "rzs"
      exact k
    · refine ⟨_, _, rfl, .tup ha, ?_⟩
      tm_at "rzs"
      rw [show decide (V.int (xs.length : Int) = V.int 4) = decide (xs.length = 4) from by rw [int_inj_dec]; exact decide_eq_decide.mpr (by omega)]
      exact k
theorem isTieP {H : Hp} {v : V} {p : Bool} {Q : VK} {E : XK} (h : PtAt 4 H v p) (q : Q (.bl p) H) : sp_is_tie [v] H Q E := ⟨v, rfl, h.is q⟩
end
end My
namespace My
open PySem PySem.Spec PyProof.Rows L2
section
variable {P : Program} {w : World} {K : PySem.W.Frag} {mg : Str → Option Value} {base : Heap}
def sp_is_size : Sp := fun vs H Q _ => ∃ (v : V), vs = [v] ∧ SzAt H v ∧ ∀ H', Same H H' → Q (.bl true) H'
theorem ok_is_size (T : Tx w K mg) : FnOk P w K mg base CX0 3 T.d_is_size.f T.d_is_size.fd ["thing"] (sp_is_size) := by
  refine T.d_is_size.F.ok sc_is_size (fun vs H Q E h => ?_) (fun cdv A outer s H vs Q E hr h => ?_)
  · obtain ⟨v, rfl, _⟩ := h
    rfl
  · obtain ⟨v, rfl, hv, k⟩ := h
    refine ⟨_, (pss_cons (ps_if (PW.pt (pw_or (pt_cmpR op_isN (pv 0) pe_non (nomark _)) (pw_or1 (pt_val (pe_call (ok_is_count T) (hr.mono (by decide)) (by rfl) T.d_is_count.g T.d_is_count.F.kp T.d_is_count.b .nil pass0 (pa_cons (pv 0) pa_nil))))))
      (pss_one (ps_ret pe_bl))
      pss_nil)
      (pss_cons (ps_if (pt_val (pe_call (ok_is_part T) (hr.mono (by decide)) (by rfl) T.d_is_part.g T.d_is_part.F.kp T.d_is_part.b .nil pass0 (pa_cons (pv 0) pa_nil)))
      (pss_one (ps_ret (pe_and (pe_cmpR op_eq (pe_ix (ix_tupK (K := K) rfl) (pv 0) pe_int (fun _ _ => rfl)) pe_str (nomark _)) (pe_one (pe_call (ok_is_count T) (hr.mono (by decide)) (by rfl) T.d_is_count.g T.d_is_count.F.kp T.d_is_count.b .nil pass0 (pa_cons (pe_ix (ix_tupK (K := K) rfl) (pv 0) pe_int (fun _ _ => rfl)) pa_nil))))))
      pss_nil)
      (pss_cons (ps_if (PW.pt (pw_or (pt_not (pt_val (pe_call (ok_is_tie T) (hr.mono (by decide)) (by rfl) T.d_is_tie.g T.d_is_tie.F.kp T.d_is_tie.b .nil pass0 (pa_cons (pv 0) pa_nil)))) (pw_or (pt_cmpR op_ne (pe_ix (ix_tupK (K := K) rfl) (pv 0) pe_int (fun _ _ => rfl)) pe_str (nomark _)) (pw_or1 (pt_not (pt_val (pe_call (ok_is_name T) (hr.mono (by decide)) (by rfl) T.d_is_name.g T.d_is_name.F.kp T.d_is_name.b .nil pass0 (pa_cons (pe_ix (ix_tupK (K := K) rfl) (pv 0) pe_int (fun _ _ => rfl)) pa_nil))))))))
      (pss_one (ps_ret pe_bl))
      pss_nil)
      (pss_one (ps_ret (pe_and (pe_cmpR (op_inK (K := K) rfl) (pe_ix (ix_tupK (K := K) rfl) (pv 0) pe_int (fun _ _ => rfl)) (pe_glob (v := .ref T.U_SIDES) (by rfl) T.v_SIDES rfl) (by rfl)) (pe_one (pe_call (ok_is_whole T) (hr.mono (by decide)) (by rfl) T.d_is_whole.g T.d_is_whole.F.kp T.d_is_whole.b .nil pass0 (pa_cons (pe_ix (ix_tupK (K := K) rfl) (pv 0) pe_int (fun _ _ => rfl)) pa_nil))))))))), ?_⟩
    cases hv with
    | non =>
      tm_at "rzs"
      exact k _ (Same.refl _)
    | cells n =>
      tm_at "rzs"
      exact k _ (Same.refl _)
    | part a n h =>
      tm_at "rzs"
      refine .inr ⟨a, _, rfl, h, ?_⟩
      tm_at "rzs"
      rw [isN_nat]
      exact k _ (Same.refl _)
    | tie a l sd m hl hs h =>
      tm_at "rzs"
      refine .inr ⟨a, _, rfl, h, ?_⟩
      tm_at "rzs"
      refine .inr ⟨a, _, rfl, h, ?_⟩
      tm_at "rzs"
      intro H1 s1
      have h1 := s1 _ _ h
      tm_at "rzs"
      have hin : inV (sX sd) [.str (Str.ofString "wide"), .str (Str.ofString "tall")] = true := by
        rcases hs with rfl | rfl <;> decide +kernel
      refine ⟨_, _, rfl, .inr (T.t_SIDES _), rfl, rfl, ?_⟩
      rw [if_neg (by decide), hin]
      tm_at "rzs"
      exact k _ s1
end
end My
namespace My
open PySem PySem.Spec PyProof.Rows L2
section
variable {P : Program} {w : World} {K : PySem.W.Frag} {mg : Str → Option Value} {base : Heap}
def sp_is_bound : Sp := fun vs H Q _ => ∃ (v : V), vs = [v] ∧ BdAt v ∧ Q (.bl true) H
theorem ok_is_bound (T : Tx w K mg) : FnOk P w K mg base CX0 3 T.d_is_bound.f T.d_is_bound.fd ["thing"] (sp_is_bound) := by
  refine T.d_is_bound.F.ok sc_is_bound (fun vs H Q E h => ?_) (fun cdv A outer s H vs Q E hr h => ?_)
  · obtain ⟨v, rfl, _⟩ := h
    rfl
  · obtain ⟨v, rfl, hv, k⟩ := h
    refine ⟨_, (pss_one (ps_ret (pe_or (pe_cmpR op_isN (pv 0) pe_non (nomark _)) (pe_one (pe_call (ok_is_count T) (hr.mono (by decide)) (by rfl) T.d_is_count.g T.d_is_count.F.kp T.d_is_count.b .nil pass0 (pa_cons (pv 0) pa_nil)))))), ?_⟩
    tm_at "rzs"
    rcases hv with rfl | ⟨n, rfl⟩
    · refine iteT' rfl ?_
      exact k
    · refine iteF' rfl ?_
      tm_at "rzs"
      rw [isN_nat]
      exact k
end
end My
namespace My
open PySem PySem.Spec PyProof.Rows L2
section
variable {P : Program} {w : World} {K : PySem.W.Frag} {mg : Str → Option Value} {base : Heap}
def sp_is_rims (K : PySem.W.Frag) : Sp := fun vs H Q _ => ∃ (v : V), vs = [v] ∧ RmAt K H v ∧ ∀ H', Same H H' → Q (.bl true) H'
theorem ok_is_rims (T : Tx w K mg) : FnOk P w K mg base CX0 3 T.d_is_rims.f T.d_is_rims.fd ["thing"] (sp_is_rims K) := by
  refine T.d_is_rims.F.ok sc_is_rims (fun vs H Q E h => ?_) (fun cdv A outer s H vs Q E hr h => ?_)
  · obtain ⟨v, rfl, _⟩ := h
    rfl
  · obtain ⟨v, rfl, hv, k⟩ := h
    refine ⟨_, (pss_one (ps_ret (pe_and (pe_callB (call_isTupK (K := K) rfl) (by rfl) T.b_isinstance (by decide +kernel) (pa_cons (pv 0) (pa_cons (pe_bltn (v := .ty "tuple") (by rfl) T.b_tuple (by decide +kernel) rfl) pa_nil))) (pe_and (pe_cmpR op_eq (pe_callB (call_lenK (K := K) rfl) (by rfl) T.b_len (by decide +kernel) (pa_cons (pv 0) pa_nil)) pe_int (nomark _)) (pe_one (pe_callB (cr_allK (K := K) rfl rfl) (by rfl) T.b_all (by decide +kernel) (pa_cons (pe_lc (own := [("rim", 1)]) (g := gName 1) (by rfl) sc_is_rims.nd (pi_tupK (K := K) rfl (pv 0)) (blkOk_by (own := [("rim", 1)]) (N := N_is_rims) (sc := defScope s_is_rims) (by decide +kernel)) (fun _ _ _ _ _ => (pg_name (i := 1) sc_is_rims.nd rfl (Or.inl rfl))) (fun _ _ _ _ _ => pts_nil) (fun _ _ _ _ _ => (pe_call (ok_is_count T) (hr.mono (by decide)) (by rfl) T.d_is_count.g T.d_is_count.F.kp T.d_is_count.b .nil pass0 (pa_cons (pv 1) pa_nil)))) pa_nil))))))), ?_⟩
    obtain ⟨a, n0, n1, n2, n3, rfl, ha⟩ := hv
    tm_at "rzs"
    refine .inr ⟨a, _, rfl, ha, ?_⟩
    tm_at "rzs"
    refine ⟨⟨_, ha⟩, fun D hD => lcTm (K := K) (ys := [n0, n1, n2, n3]) (fun n : Nat => V.int (n : Int)) (fun _ => V.bl true) hD ha (Nat.le_of_ble_eq_true rfl) (fun i y H1 Kt Kf hy s1 kt => ?_) (fun H1 s1 g1 => ?_)⟩
    · tm_at "rzs"
      rw [isN_nat]
      exact kt _ (Same.refl _)
    tm_at "rzs"
    refine ⟨D, [true, true, true, true], rfl, sqL g1, ?_⟩
    exact k H1 s1
end
end My
namespace My
open PySem PySem.Spec PyProof.Rows L2
section
variable {P : Program} {w : World} {K : PySem.W.Frag} {mg : Str → Option Value} {base : Heap}
theorem kb_Style_init_1_ (T : Tx w K mg) : ∃ mv : List Value, KBn K T.d_Style_init.fd ["self", "wide", "high", "least_wide", "least_high", "most_wide", "most_high", "grow", "shrink", "rims", "stand"] 1 [] (fun us ws => pick1 0 us ++ pick1 0 mv ++ pick1 1 mv ++ pick1 2 mv ++ pick1 3 mv ++ pick1 4 mv ++ pick1 5 mv ++ pick1 6 mv ++ pick1 7 mv ++ pick1 8 mv ++ pick1 9 mv) (fun vs zs => pick1 0 vs ++ pick1 0 (([("wide", .non), ("high", .non), ("least_wide", .non), ("least_high", .non), ("most_wide", .non), ("most_high", .non), ("grow", .int 0), ("shrink", .int 1), ("rims", .ref T.U_NO_RIMS), ("stand", .non)] : List (Str × V)).map (·.2)) ++ pick1 1 (([("wide", .non), ("high", .non), ("least_wide", .non), ("least_high", .non), ("most_wide", .non), ("most_high", .non), ("grow", .int 0), ("shrink", .int 1), ("rims", .ref T.U_NO_RIMS), ("stand", .non)] : List (Str × V)).map (·.2)) ++ pick1 2 (([("wide", .non), ("high", .non), ("least_wide", .non), ("least_high", .non), ("most_wide", .non), ("most_high", .non), ("grow", .int 0), ("shrink", .int 1), ("rims", .ref T.U_NO_RIMS), ("stand", .non)] : List (Str × V)).map (·.2)) ++ pick1 3 (([("wide", .non), ("high", .non), ("least_wide", .non), ("least_high", .non), ("most_wide", .non), ("most_high", .non), ("grow", .int 0), ("shrink", .int 1), ("rims", .ref T.U_NO_RIMS), ("stand", .non)] : List (Str × V)).map (·.2)) ++ pick1 4 (([("wide", .non), ("high", .non), ("least_wide", .non), ("least_high", .non), ("most_wide", .non), ("most_high", .non), ("grow", .int 0), ("shrink", .int 1), ("rims", .ref T.U_NO_RIMS), ("stand", .non)] : List (Str × V)).map (·.2)) ++ pick1 5 (([("wide", .non), ("high", .non), ("least_wide", .non), ("least_high", .non), ("most_wide", .non), ("most_high", .non), ("grow", .int 0), ("shrink", .int 1), ("rims", .ref T.U_NO_RIMS), ("stand", .non)] : List (Str × V)).map (·.2)) ++ pick1 6 (([("wide", .non), ("high", .non), ("least_wide", .non), ("least_high", .non), ("most_wide", .non), ("most_high", .non), ("grow", .int 0), ("shrink", .int 1), ("rims", .ref T.U_NO_RIMS), ("stand", .non)] : List (Str × V)).map (·.2)) ++ pick1 7 (([("wide", .non), ("high", .non), ("least_wide", .non), ("least_high", .non), ("most_wide", .non), ("most_high", .non), ("grow", .int 0), ("shrink", .int 1), ("rims", .ref T.U_NO_RIMS), ("stand", .non)] : List (Str × V)).map (·.2)) ++ pick1 8 (([("wide", .non), ("high", .non), ("least_wide", .non), ("least_high", .non), ("most_wide", .non), ("most_high", .non), ("grow", .int 0), ("shrink", .int 1), ("rims", .ref T.U_NO_RIMS), ("stand", .non)] : List (Str × V)).map (·.2)) ++ pick1 9 (([("wide", .non), ("high", .non), ("least_wide", .non), ("least_high", .non), ("most_wide", .non), ("most_high", .non), ("grow", .int 0), ("shrink", .int 1), ("rims", .ref T.U_NO_RIMS), ("stand", .non)] : List (Str × V)).map (·.2))) := by
  exact T.d_Style_init.FD.kbinds0 1 [] [("wide", .non), ("high", .non), ("least_wide", .non), ("least_high", .non), ("most_wide", .non), ("most_high", .non), ("grow", .int 0), ("shrink", .int 1), ("rims", .ref T.U_NO_RIMS), ("stand", .non)] (fun us mv ws => pick1 0 us ++ pick1 0 mv ++ pick1 1 mv ++ pick1 2 mv ++ pick1 3 mv ++ pick1 4 mv ++ pick1 5 mv ++ pick1 6 mv ++ pick1 7 mv ++ pick1 8 mv ++ pick1 9 mv) (by intro z; cases z) (fun q hq => List.Sublist.subset (show List.Sublist _ _ from (.cons₂ _ (.cons₂ _ (.cons₂ _ (.cons₂ _ (.cons₂ _ (.cons₂ _ (.cons₂ _ (.cons₂ _ (.cons₂ _ (.cons₂ _ .slnil))))))))))) hq) (fun r1 rm r2 => (((((((((((vals_pick r1 0).append (vals_pick rm 0)).append (vals_pick rm 1)).append (vals_pick rm 2)).append (vals_pick rm 3)).append (vals_pick rm 4)).append (vals_pick rm 5)).append (vals_pick rm 6)).append (vals_pick rm 7)).append (vals_pick rm 8)).append (vals_pick rm 9)))
    (fun D doc pm an cdv ct us mv ws h1 hm h2 => match us, mv, ws, h1, hm, h2 with | [_], [_, _, _, _, _, _, _, _, _, _], [], _, _, _ => ⟨_, _, _, _, _, _, rfl, rfl, ⟨_, _, _, _, _, _, rfl, rfl, ⟨_, _, _, _, _, _, rfl, rfl, ⟨_, _, _, _, _, _, rfl, rfl, ⟨_, _, _, _, _, _, rfl, rfl, ⟨_, _, _, _, _, _, rfl, rfl, ⟨_, _, _, _, _, _, rfl, rfl, ⟨_, _, _, _, _, _, rfl, rfl, ⟨_, _, _, _, _, _, rfl, rfl, ⟨_, _, _, _, _, _, rfl, rfl, rfl⟩⟩⟩⟩⟩⟩⟩⟩⟩⟩)
theorem kb_Style_init_1_wide_high_least_wide_least_high_most_wide_most_high_grow_shrink_rims_stand (T : Tx w K mg) : ∃ mv : List Value, KBn K T.d_Style_init.fd ["self", "wide", "high", "least_wide", "least_high", "most_wide", "most_high", "grow", "shrink", "rims", "stand"] 1 ["wide", "high", "least_wide", "least_high", "most_wide", "most_high", "grow", "shrink", "rims", "stand"] (fun us ws => pick1 0 us ++ pick1 0 ws ++ pick1 1 ws ++ pick1 2 ws ++ pick1 3 ws ++ pick1 4 ws ++ pick1 5 ws ++ pick1 6 ws ++ pick1 7 ws ++ pick1 8 ws ++ pick1 9 ws) (fun vs zs => pick1 0 vs ++ pick1 0 zs ++ pick1 1 zs ++ pick1 2 zs ++ pick1 3 zs ++ pick1 4 zs ++ pick1 5 zs ++ pick1 6 zs ++ pick1 7 zs ++ pick1 8 zs ++ pick1 9 zs) := by
  exact T.d_Style_init.FD.kbinds0 1 ["wide", "high", "least_wide", "least_high", "most_wide", "most_high", "grow", "shrink", "rims", "stand"] [] (fun us mv ws => pick1 0 us ++ pick1 0 ws ++ pick1 1 ws ++ pick1 2 ws ++ pick1 3 ws ++ pick1 4 ws ++ pick1 5 ws ++ pick1 6 ws ++ pick1 7 ws ++ pick1 8 ws ++ pick1 9 ws) (by intro z; cases z) (fun q hq => List.Sublist.subset (show List.Sublist _ _ from (.cons _ (.cons _ (.cons _ (.cons _ (.cons _ (.cons _ (.cons _ (.cons _ (.cons _ (.cons _ .slnil))))))))))) hq) (fun r1 rm r2 => (((((((((((vals_pick r1 0).append (vals_pick r2 0)).append (vals_pick r2 1)).append (vals_pick r2 2)).append (vals_pick r2 3)).append (vals_pick r2 4)).append (vals_pick r2 5)).append (vals_pick r2 6)).append (vals_pick r2 7)).append (vals_pick r2 8)).append (vals_pick r2 9)))
    (fun D doc pm an cdv ct us mv ws h1 hm h2 => match us, mv, ws, h1, hm, h2 with | [_], [], [_, _, _, _, _, _, _, _, _, _], _, _, _ => (show _ = _ by kernel_rfl))
theorem ok_Style_init (T : Tx w K mg) : FnOk P w K mg base CX0 4 T.d_Style_init.f T.d_Style_init.fd ["self", "wide", "high", "least_wide", "least_high", "most_wide", "most_high", "grow", "shrink", "rims", "stand"] (sp_Style_init K T.c_Style.C) := by
  refine T.d_Style_init.F.ok sc_Style_init (fun vs H Q E h => ?_) (fun cdv A outer s H vs Q E hr h => ?_)
  · obtain ⟨x, dx, w, h, lw, lh, mw, mh, g, s, r, st, rfl, _⟩ := h
    rfl
  · obtain ⟨x, dx, w, h, lw, lh, mw, mh, g, s, r, st, rfl, hx, hv, k⟩ := h
    obtain ⟨gn, rfl⟩ := hv.g
    obtain ⟨sn, rfl⟩ := hv.s
    refine ⟨_, (pss_cons (ps_set (i := 11) sc_Style_init.nd rfl (Or.inl rfl) (pe_and (pe_call (ok_is_size T) (hr.mono (by decide)) (by rfl) T.d_is_size.g T.d_is_size.F.kp T.d_is_size.b .nil pass0 (pa_cons (pv 1) pa_nil)) (pe_one (pe_call (ok_is_size T) (hr.mono (by decide)) (by rfl) T.d_is_size.g T.d_is_size.F.kp T.d_is_size.b .nil pass0 (pa_cons (pv 2) pa_nil)))))
      (pss_cons (ps_set (i := 12) sc_Style_init.nd rfl (Or.inl rfl) (pe_callB (cr_allK (K := K) rfl rfl) (by rfl) T.b_all (by decide +kernel) (pa_cons (pe_lc (own := [("one", 13)]) (g := gName 13) (by rfl) sc_Style_init.nd (pi_tupK (K := K) rfl (pe_tupA (pa_cons (pv 3) (pa_cons (pv 4) (pa_cons (pv 5) (pa_cons (pv 6) pa_nil)))))) (blkOk_by (own := [("one", 13)]) (N := N_Style_init) (sc := defScope s_Style_init) (by decide +kernel)) (fun _ _ _ _ _ => (pg_name (i := 13) sc_Style_init.nd rfl (Or.inl rfl))) (fun _ _ _ _ _ => pts_nil) (fun _ _ _ _ _ => (pe_call (ok_is_bound T) (hr.mono (by decide)) (by rfl) T.d_is_bound.g T.d_is_bound.F.kp T.d_is_bound.b .nil pass0 (pa_cons (pv 13) pa_nil)))) pa_nil)))
      (pss_cons (ps_if (PW.pt (pw_or (pt_not (pt_val (pv 11))) (pw_or1 (pt_not (pt_val (pv 12))))))
      (pss_one ps_never)
      pss_nil)
      (pss_cons (ps_if (PW.pt (pw_or (pt_not (pt_val (pe_call (ok_is_count T) (hr.mono (by decide)) (by rfl) T.d_is_count.g T.d_is_count.F.kp T.d_is_count.b .nil pass0 (pa_cons (pv 7) pa_nil)))) (pw_or (pt_not (pt_val (pe_call (ok_is_count T) (hr.mono (by decide)) (by rfl) T.d_is_count.g T.d_is_count.F.kp T.d_is_count.b .nil pass0 (pa_cons (pv 8) pa_nil)))) (pw_or1 (pt_not (pt_val (pe_call (ok_is_rims T) (hr.mono (by decide)) (by rfl) T.d_is_rims.g T.d_is_rims.F.kp T.d_is_rims.b .nil pass0 (pa_cons (pv 9) pa_nil))))))))
      (pss_one ps_never)
      pss_nil)
      (pss_cons (ps_if (PW.pt (pw_and (pt_cmpR op_notN (pv 10) pe_non (nomark _)) (pw_and1 (pt_cmpR (op_notInK (K := K) rfl) (pv 10) (pe_glob (v := .ref T.U_STANDS) (by rfl) T.v_STANDS rfl) (by rfl)))))
      (pss_one ps_never)
      pss_nil)
      (pss_cons (ps_asg (pe_tupA (pa_cons (pv 1) (pa_cons (pv 2) pa_nil))) (pg_tup (by rfl) (pgs_cons (pg_fldK (K := K) rfl (pv 0)) (pgs_cons (pg_fldK (K := K) rfl (pv 0)) pgs_nil))))
      (pss_cons (ps_asg (pe_tupA (pa_cons (pv 3) (pa_cons (pv 4) pa_nil))) (pg_tup (by rfl) (pgs_cons (pg_fldK (K := K) rfl (pv 0)) (pgs_cons (pg_fldK (K := K) rfl (pv 0)) pgs_nil))))
      (pss_cons (ps_asg (pe_tupA (pa_cons (pv 5) (pa_cons (pv 6) pa_nil))) (pg_tup (by rfl) (pgs_cons (pg_fldK (K := K) rfl (pv 0)) (pgs_cons (pg_fldK (K := K) rfl (pv 0)) pgs_nil))))
      (pss_cons (ps_asg (pe_tupA (pa_cons (pv 7) (pa_cons (pv 8) pa_nil))) (pg_tup (by rfl) (pgs_cons (pg_fldK (K := K) rfl (pv 0)) (pgs_cons (pg_fldK (K := K) rfl (pv 0)) pgs_nil))))
      (pss_one (ps_asg (pe_tupA (pa_cons (pv 9) (pa_cons (pv 10) pa_nil))) (pg_tup (by rfl) (pgs_cons (pg_fldK (K := K) rfl (pv 0)) (pgs_cons (pg_fldK (K := K) rfl (pv 0)) pgs_nil)))))))))))))), ?_⟩
    tm_at "rzs"
    refine ⟨hv.w, fun H1 s1 => ?_⟩
    tm_at "rzs"
    refine ⟨hv.h.same s1, fun H2 s2 => ?_⟩
    dsimp only [gName]
    tm_at "rzs"
    intro p3 H3 f3 s3 g3
    refine ⟨p3, rfl, ⟨_, sqT g3⟩, fun D hD => lcTm (K := K) (ys := [lw, lh, mw, mh]) (fun v : V => v) (fun _ => V.bl true) hD (sqT g3) (Nat.le_of_ble_eq_true rfl) (fun i y H4 Kt Kf hy s4 kt => ?_) (fun H4 s4 g4 => ?_)⟩
    · have hb : BdAt y := by
        have my := List.mem_of_getElem? hy
        rcases List.mem_cons.mp my with rfl | my
        · exact hv.lw
        rcases List.mem_cons.mp my with rfl | my
        · exact hv.lh
        rcases List.mem_cons.mp my with rfl | my
        · exact hv.mw
        · rw [List.mem_singleton.mp my]; exact hv.mh
      tm_at "rzs"
      exact kt _ (Same.refl _)
    tm_at "rzs"
    refine ⟨D, [true, true, true, true], rfl, sqL g4, ?_⟩
    dsimp only [gName]
    tm_at "rzs"
    have s04 := ((s1.trans s2).trans s3).trans s4
    refine ⟨hv.r.same s04, fun H5 s5 => ?_⟩
    tm_at "rzi"
    have s05 := s04.trans s5
    have hx5 := s05 _ _ hx
    rcases hv.st with hst | ⟨t, ht, hst⟩
    · refine iteF' (by rw [hst]; rfl) ?_
      tm_at "rzs"
      intro p6 H6 f6 s6 g6
      refine ⟨p6, _, rfl, sqT g6, rfl, ?_⟩
      refine ⟨_, _, rfl, ?_⟩
      refine ⟨_, rfl, x, _, dx, _, rfl, s6 _ _ hx5, T.c_Style.cls, T.n_Style_wide, Nat.lt_of_succ_le (Nat.le_of_ble_eq_true rfl), ?_⟩
      refine ⟨_, _, rfl, ?_⟩
      refine ⟨_, rfl, x, _, dx, _, rfl, upd_same, T.c_Style.cls, T.n_Style_high, Nat.lt_of_succ_le (Nat.le_of_ble_eq_true rfl), ?_⟩
      refine ⟨rfl, ?_⟩
      tm_at "rzs"
      intro p7 H7 f7 s7 g7
      refine ⟨p7, _, rfl, sqT g7, rfl, ?_⟩
      refine ⟨_, _, rfl, ?_⟩
      refine ⟨_, rfl, x, _, dx, _, rfl, s7 _ _ upd_same, T.c_Style.cls, T.n_Style_least_wide, Nat.lt_of_succ_le (Nat.le_of_ble_eq_true rfl), ?_⟩
      refine ⟨_, _, rfl, ?_⟩
      refine ⟨_, rfl, x, _, dx, _, rfl, upd_same, T.c_Style.cls, T.n_Style_least_high, Nat.lt_of_succ_le (Nat.le_of_ble_eq_true rfl), ?_⟩
      refine ⟨rfl, ?_⟩
      tm_at "rzs"
      intro p8 H8 f8 s8 g8
      refine ⟨p8, _, rfl, sqT g8, rfl, ?_⟩
      refine ⟨_, _, rfl, ?_⟩
      refine ⟨_, rfl, x, _, dx, _, rfl, s8 _ _ upd_same, T.c_Style.cls, T.n_Style_most_wide, Nat.lt_of_succ_le (Nat.le_of_ble_eq_true rfl), ?_⟩
      refine ⟨_, _, rfl, ?_⟩
      refine ⟨_, rfl, x, _, dx, _, rfl, upd_same, T.c_Style.cls, T.n_Style_most_high, Nat.lt_of_succ_le (Nat.le_of_ble_eq_true rfl), ?_⟩
      refine ⟨rfl, ?_⟩
      tm_at "rzs"
      intro p9 H9 f9 s9 g9
      refine ⟨p9, _, rfl, sqT g9, rfl, ?_⟩
      refine ⟨_, _, rfl, ?_⟩
      refine ⟨_, rfl, x, _, dx, _, rfl, s9 _ _ upd_same, T.c_Style.cls, T.n_Style_grow, Nat.lt_of_succ_le (Nat.le_of_ble_eq_true rfl), ?_⟩
      refine ⟨_, _, rfl, ?_⟩
      refine ⟨_, rfl, x, _, dx, _, rfl, upd_same, T.c_Style.cls, T.n_Style_shrink, Nat.lt_of_succ_le (Nat.le_of_ble_eq_true rfl), ?_⟩
      refine ⟨rfl, ?_⟩
      tm_at "rzs"
      intro p10 H10 f10 s10 g10
      refine ⟨p10, _, rfl, sqT g10, rfl, ?_⟩
      refine ⟨_, _, rfl, ?_⟩
      refine ⟨_, rfl, x, _, dx, _, rfl, s10 _ _ upd_same, T.c_Style.cls, T.n_Style_rims, Nat.lt_of_succ_le (Nat.le_of_ble_eq_true rfl), ?_⟩
      refine ⟨_, _, rfl, ?_⟩
      refine ⟨_, rfl, x, _, dx, _, rfl, upd_same, T.c_Style.cls, T.n_Style_stand, Nat.lt_of_succ_le (Nat.le_of_ble_eq_true rfl), ?_⟩
      refine ⟨rfl, ?_⟩
      refine k _ (by tm_at "bt") ?_
      rw [upd_same, styF_put]
    · refine iteT' (by rw [hst]; rfl) ?_
      have hin : inV (sX t) [.str (Str.ofString "start"), .str (Str.ofString "end"), .str (Str.ofString "middle"), .str (Str.ofString "stretch"), .str (Str.ofString "base")] = true := by
        have ht : t ∈ ["start", "end", "middle", "stretch", "base"] := ht
        simp only [List.mem_cons, List.not_mem_nil, or_false] at ht
        rcases ht with rfl | rfl | rfl | rfl | rfl <;> decide +kernel
      tm_at "rds"
      refine ⟨_, _, rfl, .inr (T.t_STANDS _), by rw [hst]; rfl, rfl, ?_⟩
      rw [if_pos rfl, hst, hin, ← hst]
      tm_at "rzs"
      intro p6 H6 f6 s6 g6
      refine ⟨p6, _, rfl, sqT g6, rfl, ?_⟩
      refine ⟨_, _, rfl, ?_⟩
      refine ⟨_, rfl, x, _, dx, _, rfl, s6 _ _ hx5, T.c_Style.cls, T.n_Style_wide, Nat.lt_of_succ_le (Nat.le_of_ble_eq_true rfl), ?_⟩
      refine ⟨_, _, rfl, ?_⟩
      refine ⟨_, rfl, x, _, dx, _, rfl, upd_same, T.c_Style.cls, T.n_Style_high, Nat.lt_of_succ_le (Nat.le_of_ble_eq_true rfl), ?_⟩
      refine ⟨rfl, ?_⟩
      tm_at "rzs"
      intro p7 H7 f7 s7 g7
      refine ⟨p7, _, rfl, sqT g7, rfl, ?_⟩
      refine ⟨_, _, rfl, ?_⟩
      refine ⟨_, rfl, x, _, dx, _, rfl, s7 _ _ upd_same, T.c_Style.cls, T.n_Style_least_wide, Nat.lt_of_succ_le (Nat.le_of_ble_eq_true rfl), ?_⟩
      refine ⟨_, _, rfl, ?_⟩
      refine ⟨_, rfl, x, _, dx, _, rfl, upd_same, T.c_Style.cls, T.n_Style_least_high, Nat.lt_of_succ_le (Nat.le_of_ble_eq_true rfl), ?_⟩
      refine ⟨rfl, ?_⟩
      tm_at "rzs"
      intro p8 H8 f8 s8 g8
      refine ⟨p8, _, rfl, sqT g8, rfl, ?_⟩
      refine ⟨_, _, rfl, ?_⟩
      refine ⟨_, rfl, x, _, dx, _, rfl, s8 _ _ upd_same, T.c_Style.cls, T.n_Style_most_wide, Nat.lt_of_succ_le (Nat.le_of_ble_eq_true rfl), ?_⟩
      refine ⟨_, _, rfl, ?_⟩
      refine ⟨_, rfl, x, _, dx, _, rfl, upd_same, T.c_Style.cls, T.n_Style_most_high, Nat.lt_of_succ_le (Nat.le_of_ble_eq_true rfl), ?_⟩
      refine ⟨rfl, ?_⟩
      tm_at "rzs"
      intro p9 H9 f9 s9 g9
      refine ⟨p9, _, rfl, sqT g9, rfl, ?_⟩
      refine ⟨_, _, rfl, ?_⟩
      refine ⟨_, rfl, x, _, dx, _, rfl, s9 _ _ upd_same, T.c_Style.cls, T.n_Style_grow, Nat.lt_of_succ_le (Nat.le_of_ble_eq_true rfl), ?_⟩
      refine ⟨_, _, rfl, ?_⟩
      refine ⟨_, rfl, x, _, dx, _, rfl, upd_same, T.c_Style.cls, T.n_Style_shrink, Nat.lt_of_succ_le (Nat.le_of_ble_eq_true rfl), ?_⟩
      refine ⟨rfl, ?_⟩
      tm_at "rzs"
      intro p10 H10 f10 s10 g10
      refine ⟨p10, _, rfl, sqT g10, rfl, ?_⟩
      refine ⟨_, _, rfl, ?_⟩
      refine ⟨_, rfl, x, _, dx, _, rfl, s10 _ _ upd_same, T.c_Style.cls, T.n_Style_rims, Nat.lt_of_succ_le (Nat.le_of_ble_eq_true rfl), ?_⟩
      refine ⟨_, _, rfl, ?_⟩
      refine ⟨_, rfl, x, _, dx, _, rfl, upd_same, T.c_Style.cls, T.n_Style_stand, Nat.lt_of_succ_le (Nat.le_of_ble_eq_true rfl), ?_⟩
      refine ⟨rfl, ?_⟩
      refine k _ (by tm_at "bt") ?_
      rw [upd_same, styF_put]
end
end My
namespace My
open PySem PySem.Spec PyProof.Rows L2
section
variable {P : Program} {w : World} {K : PySem.W.Frag} {mg : Str → Option Value} {base : Heap}
def sp_checked_name : Sp := fun vs H Q _ => ∃ (l : List Nat), vs = [.str (sO l)] ∧ NameOk l ∧ ∀ H', Same H H' → Q (.str (sO l)) H'
theorem ok_checked_name (T : Tx w K mg) : FnOk P w K mg base CX0 2 T.d_checked_name.f T.d_checked_name.fd ["name"] (sp_checked_name) := by
  refine T.d_checked_name.F.ok sc_checked_name (fun vs H Q E h => ?_) (fun cdv A outer s H vs Q E hr h => ?_)
  · obtain ⟨l, rfl, _⟩ := h
    rfl
  · obtain ⟨l, rfl, hl, k⟩ := h
    refine ⟨_, (pss_cons (ps_if (pt_not (pt_val (pe_call (ok_is_name T) (hr.mono (by decide)) (by rfl) T.d_is_name.g T.d_is_name.F.kp T.d_is_name.b .nil pass0 (pa_cons (pv 0) pa_nil))))
      (pss_one ps_never)
      pss_nil)
      (pss_one (ps_ret (pv 0)))), ?_⟩
    tm_at "rzs"
    refine fun H1 s1 => ?_
    tm_at "rzs"
    exact k H1 s1
end
end My
namespace My
open PySem PySem.Spec PyProof.Rows L2
section
variable {P : Program} {w : World} {K : PySem.W.Frag} {mg : Str → Option Value} {base : Heap}
def sp_checked_style (K : PySem.W.Frag) (S U : Addr) : Sp := fun vs H Q _ => ∃ v : V, vs = [v] ∧ ((v = .non ∧ ∀ (y dy : Addr) H', Same H H' → H' y = some (.ins S dy (styL (dfltL U))) → Q (.ref y) H') ∨ ∃ (y dy : Addr) (st : List V), v = .ref y ∧ H y = some (.ins S dy (styL st)) ∧ Q (.ref y) H)
theorem ok_checked_style (T : Tx w K mg) : FnOk P w K mg base CX0 6 T.d_checked_style.f T.d_checked_style.fd ["style"] (sp_checked_style K T.c_Style.C T.U_NO_RIMS) := by
  refine T.d_checked_style.F.ok sc_checked_style (fun vs H Q E h => ?_) (fun cdv A outer s H vs Q E hr h => ?_)
  · obtain ⟨v, rfl, _⟩ := h
    rfl
  · obtain ⟨v, rfl, hv⟩ := h
    refine ⟨_, (pss_cons (ps_if (pt_cmpR op_isN (pv 0) pe_non (nomark _))
      (pss_one (ps_ret (pe_makeK0 T.d_Style_init.mks (ok_Style_init T) (hr.mono (by decide)) (by rfl) T.c_Style.g (Classical.choose_spec (kb_Style_init_1_ T)) pass0 pk_nil)))
      pss_nil)
      (pss_cons (ps_if (pt_not (pt_val (pe_callB (call_isiK (K := K) rfl) (by rfl) T.b_isinstance (by decide +kernel) (pa_cons (pv 0) (pa_cons (pe_glob (v := .ref T.c_Style.C) (by rfl) T.c_Style.g rfl) pa_nil)))))
      (pss_one ps_never)
      pss_nil)
      (pss_one (ps_ret (pv 0))))), ?_⟩
    rcases hv with ⟨rfl, k⟩ | ⟨y, dy, st, rfl, hy, k⟩
    · tm_at "rzs"
      exact mk_style (fs := dfltL T.U_NO_RIMS) (dflt_ok T.t_NO_RIMS) fun x dx H' s _ g => k _ _ H' s g
    · tm_at "rzs"
      refine ⟨_, _, _, _, true, rfl, .own _, .base (.ins hy T.c_Style.cls T.wc_Style T.wg T.wt T.wm_Style), T.ki_Style, ?_⟩
      tm_at "rzs"
      exact k
end
end My
namespace My
open PySem PySem.Spec PyProof.Rows L2
section
variable {P : Program} {w : World} {K : PySem.W.Frag} {mg : Str → Option Value} {base : Heap}
theorem ok_Box_held_boxes (T : Tx w K mg) : FnOk P w K mg base CX0 1 T.d_Box_held_boxes.f T.d_Box_held_boxes.fd ["self"] (sp_held2 (bcT T) T.c_Style.C K) := by
  refine T.d_Box_held_boxes.F.ok sc_Box_held_boxes (fun vs H Q E h => ?_) (fun cdv A outer s H vs Q E hr h => ?_)
  · obtain ⟨_, rfl, _⟩ := h
    rfl
  · refine ⟨_, (pss_one (ps_ret (pe_tupA pa_nil))), ?_⟩
    obtain ⟨t, rfl, hb, hk, k⟩ := h
    tm_at "rzs"
    intro p H1 f1 s1 g1
    refine k p H1 s1 ?_
    rw [hb.leaf hk]
    exact g1
end
end My
namespace My
open PySem PySem.Spec PyProof.Rows L2
section
variable {P : Program} {w : World} {K : PySem.W.Frag} {mg : Str → Option Value} {base : Heap}
def sp_checked_boxes (bc : Kd → Addr) (S : Addr) (K : PySem.W.Frag) : Sp := fun vs H Q _ => ∃ (a : Addr) (ks : List At), vs = [.ref a] ∧ H a = some (.lst (refs ks)) ∧ ks.length ≤ 1000 ∧ (∀ k ∈ ks, BoxAt bc S K H k) ∧ ∀ p H', Same H H' → H p = none → H' p = some (.tup (refs ks)) → Q (.ref p) H'
theorem ok_checked_boxes (T : Tx w K mg) : FnOk P w K mg base CX0 1 T.d_checked_boxes.f T.d_checked_boxes.fd ["boxes"] (sp_checked_boxes (bcT T) T.c_Style.C K) := by
  refine T.d_checked_boxes.F.ok sc_checked_boxes (fun vs H Q E h => ?_) (fun cdv A outer s H vs Q E hr h => ?_)
  · obtain ⟨a, ks, rfl, _⟩ := h
    rfl
  · obtain ⟨a, ks, rfl, ha, hl, hw, k⟩ := h
    refine ⟨_, (pss_cons (ps_if (PW.pt (pw_or (pt_not (pt_val (pe_callB is_list (by rfl) T.b_isinstance (by decide +kernel) (pa_cons (pv 0) (pa_cons (pe_bltn (v := .ty "list") (by rfl) T.b_list (by decide +kernel) rfl) pa_nil))))) (pw_or1 (pt_not (pt_val (pe_callB (cr_allK (K := K) rfl rfl) (by rfl) T.b_all (by decide +kernel) (pa_cons (pe_lc (own := [("box", 1)]) (g := gName 1) (by rfl) sc_checked_boxes.nd (pi_listK (K := K) rfl (pv 0)) (blkOk_by (own := [("box", 1)]) (N := N_checked_boxes) (sc := defScope s_checked_boxes) (by decide +kernel)) (fun _ _ _ _ _ => (pg_name (i := 1) sc_checked_boxes.nd rfl (Or.inl rfl))) (fun _ _ _ _ _ => pts_nil) (fun _ _ _ _ _ => (pe_callB (call_isiK (K := K) rfl) (by rfl) T.b_isinstance (by decide +kernel) (pa_cons (pv 1) (pa_cons (pe_glob (v := .ref T.c_Box.C) (by rfl) T.c_Box.g rfl) pa_nil))))) pa_nil)))))))
      (pss_one ps_never)
      pss_nil)
      (pss_one (ps_ret (pe_callTy (call_tupLK (K := K) rfl) (by rfl) T.b_tuple (by decide +kernel) (pa_cons (pv 0) pa_nil))))), ?_⟩
    tm_at "rzs"
    refine ⟨⟨_, sqL ha⟩, fun D hD => lcLx (K := K) (xs := refs ks) (fun _ => .bl true) hD (sqL ha) (by unfold refs; rw [List.length_map]; omega) (fun i x H2 Kt Kf hx s2 kk => ?_) (fun H2 s2 g2 => ?_)⟩
    · obtain ⟨t, mt, rfl⟩ := of_map hx
      have ht := (hw t (List.mem_of_getElem? mt)).ks (Same.ks s2)
      tm_at "rzs"
      refine ⟨_, _, _, _, true, rfl, .own _, ht.tyx (kdT T), (kdT T).box _, ?_⟩
      exact kk _ (Same.refl _)
    rw [bls _ fun _ => true] at g2
    tm_at "rzs"
    refine ⟨D, _, rfl, sqL g2, ?_⟩
    rw [all_true]
    tm_at "rzs"
    refine ⟨a, refs ks, rfl, sqL (s2 _ _ ha), fun p H3 f3 s3 g3 => ?_⟩
    exact k p H3 (s2.trans s3) (s2.free f3) g3
end
end My
namespace My
open PySem PySem.Spec PyProof.Rows L2
section
variable {P : Program} {w : World} {K : PySem.W.Frag} {mg : Str → Option Value} {base : Heap}
def sp_checked_gap : Sp := fun vs H Q _ => ∃ n : Int, vs = [.int n] ∧ 0 ≤ n ∧ Q (.int n) H
theorem ok_checked_gap (T : Tx w K mg) : FnOk P w K mg base CX0 3 T.d_checked_gap.f T.d_checked_gap.fd ["gap"] (sp_checked_gap) := by
  refine T.d_checked_gap.F.ok sc_checked_gap (fun vs H Q E h => ?_) (fun cdv A outer s H vs Q E hr h => ?_)
  · obtain ⟨n, rfl, _⟩ := h
    rfl
  · obtain ⟨n, rfl, hn, k⟩ := h
    refine ⟨_, (pss_cons (ps_if (pt_not (pt_val (pe_call (ok_is_count T) (hr.mono (by decide)) (by rfl) T.d_is_count.g T.d_is_count.F.kp T.d_is_count.b .nil pass0 (pa_cons (pv 0) pa_nil))))
      (pss_one ps_never)
      pss_nil)
      (pss_one (ps_ret (pv 0)))), ?_⟩
    tm_at "rzs"
    refine iteF' (by show (!decide (0 ≤ n)) = false; rw [decide_eq_true hn]; rfl) ?_
    tm_at "rzs"
    exact k
end
end My
namespace My
open PySem PySem.Spec PyProof.Rows L2
section
variable {P : Program} {w : World} {K : PySem.W.Frag} {mg : Str → Option Value} {base : Heap}
def sp_checked_pack : Sp := fun vs H Q _ => ∃ t : String, vs = [sX t] ∧ t ∈ ["start", "end", "middle", "between"] ∧ Q (sX t) H
theorem ok_checked_pack (T : Tx w K mg) : FnOk P w K mg base CX0 1 T.d_checked_pack.f T.d_checked_pack.fd ["pack"] (sp_checked_pack) := by
  refine T.d_checked_pack.F.ok sc_checked_pack (fun vs H Q E h => ?_) (fun cdv A outer s H vs Q E hr h => ?_)
  · obtain ⟨t, rfl, _⟩ := h
    rfl
  · obtain ⟨t, rfl, ht, k⟩ := h
    refine ⟨_, (pss_cons (ps_if (pt_cmpR (op_notInK (K := K) rfl) (pv 0) (pe_glob (v := .ref T.U_PACKS) (by rfl) T.v_PACKS rfl) (by rfl))
      (pss_one ps_never)
      pss_nil)
      (pss_one (ps_ret (pv 0)))), ?_⟩
    have hin : inV (sX t) [.str (Str.ofString "start"), .str (Str.ofString "end"), .str (Str.ofString "middle"), .str (Str.ofString "between")] = true := by
      simp only [List.mem_cons, List.not_mem_nil, or_false] at ht
      rcases ht with rfl | rfl | rfl | rfl <;> decide +kernel
    tm_at "rzs"
    refine ⟨_, _, rfl, .inr (T.t_PACKS _), rfl, rfl, ?_⟩
    rw [if_pos rfl, hin]
    tm_at "rzs"
    exact k
end
end My
namespace My
open PySem PySem.Spec PyProof.Rows L2
section
variable {P : Program} {w : World} {K : PySem.W.Frag} {mg : Str → Option Value} {base : Heap}
def sp_checked_stands : Sp := fun vs H Q _ => ∃ t : String, vs = [sX t] ∧ t ∈ ["start", "end", "middle", "stretch", "base"] ∧ Q (sX t) H
theorem ok_checked_stands (T : Tx w K mg) : FnOk P w K mg base CX0 1 T.d_checked_stands.f T.d_checked_stands.fd ["stands"] (sp_checked_stands) := by
  refine T.d_checked_stands.F.ok sc_checked_stands (fun vs H Q E h => ?_) (fun cdv A outer s H vs Q E hr h => ?_)
  · obtain ⟨t, rfl, _⟩ := h
    rfl
  · obtain ⟨t, rfl, ht, k⟩ := h
    refine ⟨_, (pss_cons (ps_if (pt_cmpR (op_notInK (K := K) rfl) (pv 0) (pe_glob (v := .ref T.U_STANDS) (by rfl) T.v_STANDS rfl) (by rfl))
      (pss_one ps_never)
      pss_nil)
      (pss_one (ps_ret (pv 0)))), ?_⟩
    have hin : inV (sX t) [.str (Str.ofString "start"), .str (Str.ofString "end"), .str (Str.ofString "middle"), .str (Str.ofString "stretch"), .str (Str.ofString "base")] = true := by
      simp only [List.mem_cons, List.not_mem_nil, or_false] at ht
      rcases ht with rfl | rfl | rfl | rfl | rfl <;> decide +kernel
    tm_at "rzs"
    refine ⟨_, _, rfl, .inr (T.t_STANDS _), rfl, rfl, ?_⟩
    rw [if_pos rfl, hin]
    tm_at "rzs"
    exact k
end
end My
namespace My
open PySem PySem.Spec PyProof.Rows L2
section
variable {P : Program} {w : World} {K : PySem.W.Frag} {mg : Str → Option Value} {base : Heap}
theorem kb_Words_init_3_style (T : Tx w K mg) : ∃ mv : List Value, KBn K T.d_Words_init.fd ["self", "name", "text", "style"] 3 ["style"] (fun us ws => pick1 0 us ++ pick1 1 us ++ pick1 2 us ++ pick1 0 ws) (fun vs zs => pick1 0 vs ++ pick1 1 vs ++ pick1 2 vs ++ pick1 0 zs) := by
  exact T.d_Words_init.FD.kbinds0 3 ["style"] [] (fun us mv ws => pick1 0 us ++ pick1 1 us ++ pick1 2 us ++ pick1 0 ws) (by intro z; cases z) (fun q hq => List.Sublist.subset (show List.Sublist _ _ from (.cons _ .slnil)) hq) (fun r1 rm r2 => ((((vals_pick r1 0).append (vals_pick r1 1)).append (vals_pick r1 2)).append (vals_pick r2 0)))
    (fun D doc pm an cdv ct us mv ws h1 hm h2 => match us, mv, ws, h1, hm, h2 with | [_, _, _], [], [_], _, _, _ => (show _ = _ by kernel_rfl))
def sp_Words_init (bc : Kd → Addr) (S U : Addr) (K : PySem.W.Frag) : Sp := fun vs H Q _ => ∃ (x dx : Addr) (l t : List Nat) (sv : V), vs = [.ref x, .str (sO l), .str (sO t), sv] ∧ H x = some (.ins (bc .words) dx []) ∧ NameOk l ∧ t.length ≤ 10000 ∧ StyAt K H S U sv ∧ ∀ H' st, But x H H' → StyIs K H S U sv st → BoxAt bc S K H' (.mk x l st (.words t) []) → Q .non H'
theorem ok_Words_init (T : Tx w K mg) : FnOk P w K mg base CX0 7 T.d_Words_init.f T.d_Words_init.fd ["self", "name", "text", "style"] (sp_Words_init (bcT T) T.c_Style.C T.U_NO_RIMS K) := by
  refine T.d_Words_init.F.ok sc_Words_init (fun vs H Q E h => ?_) (fun cdv A outer s H vs Q E hr h => ?_)
  · obtain ⟨x, dx, l, t, sv, rfl, _⟩ := h
    rfl
  · obtain ⟨x, dx, l, t, sv, rfl, hx, hl, ht, hs, k⟩ := h
    refine ⟨_, (pss_cons (ps_fld (pv 0) (pe_call (ok_checked_name T) (hr.mono (by decide)) (by rfl) T.d_checked_name.g T.d_checked_name.F.kp T.d_checked_name.b .nil pass0 (pa_cons (pv 1) pa_nil)) rfl)
      (pss_cons (ps_if (pt_not (pt_val (pe_callB is_str (by rfl) T.b_isinstance (by decide +kernel) (pa_cons (pv 2) (pa_cons (pe_bltn (v := .ty "str") (by rfl) T.b_str (by decide +kernel) rfl) pa_nil)))))
      (pss_one ps_never)
      pss_nil)
      (pss_cons (ps_fld (pv 0) (pv 2) rfl)
      (pss_one (ps_fld (pv 0) (pe_call (ok_checked_style T) (hr.mono (by decide)) (by rfl) T.d_checked_style.g T.d_checked_style.F.kp T.d_checked_style.b .nil pass0 (pa_cons (pv 3) pa_nil)) rfl))))), ?_⟩
    tm_at "rzs"
    refine fun H1 s1 => ?_
    tm_at "rzs"
    refine ⟨x, _, dx, _, rfl, s1 _ _ hx, T.c_Words.cls, T.n_Words_name, Nat.lt_of_succ_le (Nat.le_of_ble_eq_true rfl), ?_⟩
    refine upd_gen fun H2 b2 g2 => ?_
    tm_at "rzs"
    refine ⟨x, _, dx, _, rfl, g2, T.c_Words.cls, T.n_Words_text, Nat.lt_of_succ_le (Nat.le_of_ble_eq_true rfl), ?_⟩
    refine upd_gen fun H3 b3 g3 => ?_
    tm_at "rzs"
    have B3 : But x H H3 := (Same.but s1).trans (b2.trans b3)
    refine sty_step hs T.t_NO_RIMS (KeepS.butE B3 hx) fun y dy st H4 s4 si gy ls ok => ?_
    tm_at "rzs"
    refine ⟨x, _, dx, _, rfl, s4 _ _ g3, T.c_Words.cls, T.n_Words_style, Nat.lt_of_succ_le (Nat.le_of_ble_eq_true rfl), ?_⟩
    refine upd_gen fun H5 b5 g5 => ?_
    have ny := sty_ne gy ls (s4 _ _ g3) (show 2 ≠ 10 by decide)
    have B5 : But x H H5 := B3.trans ((Same.but s4).trans b5)
    exact k H5 st B5 si (.words g5 (b5 _ _ ny gy) (ok _ (KeepS.butE B5 hx)) hl ht)
end
end My
namespace My
open PySem PySem.Spec PyProof.Rows L2
section
variable {P : Program} {w : World} {K : PySem.W.Frag} {mg : Str → Option Value} {base : Heap}
theorem kb_Picture_init_4_style (T : Tx w K mg) : ∃ mv : List Value, KBn K T.d_Picture_init.fd ["self", "name", "across", "down", "style"] 4 ["style"] (fun us ws => pick1 0 us ++ pick1 1 us ++ pick1 2 us ++ pick1 3 us ++ pick1 0 ws) (fun vs zs => pick1 0 vs ++ pick1 1 vs ++ pick1 2 vs ++ pick1 3 vs ++ pick1 0 zs) := by
  exact T.d_Picture_init.FD.kbinds0 4 ["style"] [] (fun us mv ws => pick1 0 us ++ pick1 1 us ++ pick1 2 us ++ pick1 3 us ++ pick1 0 ws) (by intro z; cases z) (fun q hq => List.Sublist.subset (show List.Sublist _ _ from (.cons _ .slnil)) hq) (fun r1 rm r2 => (((((vals_pick r1 0).append (vals_pick r1 1)).append (vals_pick r1 2)).append (vals_pick r1 3)).append (vals_pick r2 0)))
    (fun D doc pm an cdv ct us mv ws h1 hm h2 => match us, mv, ws, h1, hm, h2 with | [_, _, _, _], [], [_], _, _, _ => (show _ = _ by kernel_rfl))
def sp_Picture_init (bc : Kd → Addr) (S U : Addr) (K : PySem.W.Frag) : Sp := fun vs H Q _ => ∃ (x dx : Addr) (l : List Nat) (a d : Int) (sv : V), vs = [.ref x, .str (sO l), .int a, .int d, sv] ∧ H x = some (.ins (bc .picture) dx []) ∧ NameOk l ∧ 1 ≤ a ∧ 1 ≤ d ∧ StyAt K H S U sv ∧ ∀ H' st, But x H H' → StyIs K H S U sv st → BoxAt bc S K H' (.mk x l st (.picture a d) []) → Q .non H'
theorem ok_Picture_init (T : Tx w K mg) : FnOk P w K mg base CX0 7 T.d_Picture_init.f T.d_Picture_init.fd ["self", "name", "across", "down", "style"] (sp_Picture_init (bcT T) T.c_Style.C T.U_NO_RIMS K) := by
  refine T.d_Picture_init.F.ok sc_Picture_init (fun vs H Q E h => ?_) (fun cdv A outer s H vs Q E hr h => ?_)
  · obtain ⟨x, dx, l, a, d, sv, rfl, _⟩ := h
    rfl
  · obtain ⟨x, dx, l, a, d, sv, rfl, hx, hl, ha, hd, hs, k⟩ := h
    refine ⟨_, (pss_cons (ps_fld (pv 0) (pe_call (ok_checked_name T) (hr.mono (by decide)) (by rfl) T.d_checked_name.g T.d_checked_name.F.kp T.d_checked_name.b .nil pass0 (pa_cons (pv 1) pa_nil)) rfl)
      (pss_cons (ps_for PassesOwn.never (by rfl) (pi_tupK (K := K) rfl (pe_tupA (pa_cons (pv 2) (pa_cons (pv 3) pa_nil)))) (pg_name (i := 5) sc_Picture_init.nd rfl (Or.inl rfl))
      (pss_one (ps_if (PW.pt (pw_or (pt_not (pt_val (pe_call (ok_is_whole T) (hr.mono (by decide)) (by rfl) T.d_is_whole.g T.d_is_whole.F.kp T.d_is_whole.b .nil pass0 (pa_cons (pv 5) pa_nil)))) (pw_or1 (pt_cmpR op_lt (pv 5) pe_int (nomark _)))))
      (pss_one ps_never)
      pss_nil)))
      (pss_cons (ps_asg (pe_tupA (pa_cons (pv 2) (pa_cons (pv 3) pa_nil))) (pg_tup (by rfl) (pgs_cons (pg_fldK (K := K) rfl (pv 0)) (pgs_cons (pg_fldK (K := K) rfl (pv 0)) pgs_nil))))
      (pss_one (ps_fld (pv 0) (pe_call (ok_checked_style T) (hr.mono (by decide)) (by rfl) T.d_checked_style.g T.d_checked_style.F.kp T.d_checked_style.b .nil pass0 (pa_cons (pv 4) pa_nil)) rfl))))), ?_⟩
    tm_at "rzs"
    refine fun H1 s1 => ?_
    tm_at "rzs"
    refine ⟨x, _, dx, _, rfl, s1 _ _ hx, T.c_Picture.cls, T.n_Picture_name, Nat.lt_of_succ_le (Nat.le_of_ble_eq_true rfl), ?_⟩
    refine upd_gen fun H2 b2 g2 => ?_
    have B2 : But x H H2 := (Same.but s1).trans b2
    tm_at "rzs"
    intro p3 H3 f3 s3 g3
    refine ⟨p3, rfl, ⟨_, sqT g3⟩, for_tup (K := K) (a := p3) (xs := [.int a, .int d]) (fun i σ H' => ∃ v5 : Option V, σ = [some (.ref x), some (.str (sO l)), some (.int a), some (.int d), some sv, v5] ∧ Same H3 H') ⟨_, rfl, Same.refl _⟩ (fun i σ H' _ ⟨_, _, s⟩ => sqT (s _ _ g3)) ?_ ?_⟩
    · rintro i v σ H4 hv ⟨v5, rfl, s4⟩
      obtain ⟨n, rfl, hn⟩ : ∃ n : Int, v = .int n ∧ 1 ≤ n := by
        match i, hv with
        | 0, e => cases e; exact ⟨a, rfl, ha⟩
        | 1, e => cases e; exact ⟨d, rfl, hd⟩
        | n + 2, e => cases e
      dsimp only [gName]
      tm_at "rzs"
      refine iteF' (decide_eq_false (by omega)) ?_
      tm_at "rzs"
      exact s4
    · rintro σ H4 ⟨v5, rfl, s4⟩
      tm_at "rzs"
      intro p5 H5 f5 s5 g5
      have g25 := s5 _ _ (s4 _ _ (s3 _ _ g2))
      refine ⟨p5, _, rfl, sqT g5, rfl, ?_⟩
      refine ⟨_, _, rfl, ?_⟩
      refine ⟨_, rfl, x, _, dx, _, rfl, g25, T.c_Picture.cls, T.n_Picture_across, Nat.lt_of_succ_le (Nat.le_of_ble_eq_true rfl), ?_⟩
      with_reducible refine upd_gen (R := fun Hq => gCons (gFld K (tVar 0) "down") gNil _ _ Hq _) fun H6 b6 g6 => ?_
      refine ⟨_, _, rfl, ?_⟩
      refine ⟨_, rfl, x, _, dx, _, rfl, g6, T.c_Picture.cls, T.n_Picture_down, Nat.lt_of_succ_le (Nat.le_of_ble_eq_true rfl), ?_⟩
      with_reducible refine upd_gen (R := fun Hq => gNil _ _ Hq _) fun H7 b7 g7 => ?_
      refine ⟨rfl, ?_⟩
      have B7 : But x H H7 := B2.trans ((Same.but ((s3.trans s4).trans s5)).trans (b6.trans b7))
      tm_at "rzs"
      refine sty_step hs T.t_NO_RIMS (KeepS.butE B7 hx) fun y dy st H8 s8 si gy ls ok => ?_
      tm_at "rzs"
      refine ⟨x, _, dx, _, rfl, s8 _ _ g7, T.c_Picture.cls, T.n_Picture_style, Nat.lt_of_succ_le (Nat.le_of_ble_eq_true rfl), ?_⟩
      refine upd_gen fun H9 b9 g9 => ?_
      have ny := sty_ne gy ls (s8 _ _ g7) (show 3 ≠ 10 by decide)
      have B9 : But x H H9 := B7.trans ((Same.but s8).trans b9)
      exact k H9 st B9 si (.picture g9 (b9 _ _ ny gy) (ok _ (KeepS.butE B9 hx)) hl ha hd)
end
end My
namespace My
open PySem PySem.Spec PyProof.Rows L2
section
variable {P : Program} {w : World} {K : PySem.W.Frag} {mg : Str → Option Value} {base : Heap}
theorem kb_Row_init_3_turn_gap_lane_pack_stands_style (T : Tx w K mg) : ∃ mv : List Value, KBn K T.d_Row_init.fd ["self", "name", "boxes", "turn", "gap", "lane", "pack", "stands", "style"] 3 ["turn", "gap", "lane", "pack", "stands", "style"] (fun us ws => pick1 0 us ++ pick1 1 us ++ pick1 2 us ++ pick1 0 ws ++ pick1 1 ws ++ pick1 2 ws ++ pick1 3 ws ++ pick1 4 ws ++ pick1 5 ws) (fun vs zs => pick1 0 vs ++ pick1 1 vs ++ pick1 2 vs ++ pick1 0 zs ++ pick1 1 zs ++ pick1 2 zs ++ pick1 3 zs ++ pick1 4 zs ++ pick1 5 zs) := by
  exact T.d_Row_init.FD.kbinds0 3 ["turn", "gap", "lane", "pack", "stands", "style"] [] (fun us mv ws => pick1 0 us ++ pick1 1 us ++ pick1 2 us ++ pick1 0 ws ++ pick1 1 ws ++ pick1 2 ws ++ pick1 3 ws ++ pick1 4 ws ++ pick1 5 ws) (by intro z; cases z) (fun q hq => List.Sublist.subset (show List.Sublist _ _ from (.cons _ (.cons _ (.cons _ (.cons _ (.cons _ (.cons _ .slnil))))))) hq) (fun r1 rm r2 => (((((((((vals_pick r1 0).append (vals_pick r1 1)).append (vals_pick r1 2)).append (vals_pick r2 0)).append (vals_pick r2 1)).append (vals_pick r2 2)).append (vals_pick r2 3)).append (vals_pick r2 4)).append (vals_pick r2 5)))
    (fun D doc pm an cdv ct us mv ws h1 hm h2 => match us, mv, ws, h1, hm, h2 with | [_, _, _], [], [_, _, _, _, _, _], _, _, _ => (show _ = _ by kernel_rfl))
def sp_Row_init (bc : Kd → Addr) (S U : Addr) (K : PySem.W.Frag) : Sp := fun vs H Q _ => ∃ (x dx p : Addr) (l : List Nat) (ks : List At) (turn : Bool) (gap lane : Int) (pack stands : String) (sv : V), vs = [.ref x, .str (sO l), .ref p, .bl turn, .int gap, .int lane, sX pack, sX stands, sv] ∧ H x = some (.ins (bc .row) dx []) ∧ NameOk l ∧ H p = some (.lst (refs ks)) ∧ ks.length ≤ 1000 ∧ (∀ k ∈ ks, BoxAt bc S K H k) ∧ 0 ≤ gap ∧ 0 ≤ lane ∧ pack ∈ ["start", "end", "middle", "between"] ∧ stands ∈ ["start", "end", "middle", "stretch", "base"] ∧ StyAt K H S U sv ∧
  ∀ H' st, But x H H' → StyIs K H S U sv st → BoxAt bc S K H' (.mk x l st (.row turn gap lane pack stands) ks) → Q .non H'
theorem ok_Row_init (T : Tx w K mg) : FnOk P w K mg base CX0 7 T.d_Row_init.f T.d_Row_init.fd ["self", "name", "boxes", "turn", "gap", "lane", "pack", "stands", "style"] (sp_Row_init (bcT T) T.c_Style.C T.U_NO_RIMS K) := by
  refine T.d_Row_init.F.ok sc_Row_init (fun vs H Q E h => ?_) (fun cdv A outer s H vs Q E hr h => ?_)
  · obtain ⟨x, dx, p, l, ks, turn, gap, lane, pack, stands, sv, rfl, _⟩ := h
    rfl
  · obtain ⟨x, dx, p, l, ks, turn, gap, lane, pack, stands, sv, rfl, hx, hl, hp, lk, hk, g0, l0, mp, ms, hs, k⟩ := h
    refine ⟨_, (pss_cons (ps_fld (pv 0) (pe_call (ok_checked_name T) (hr.mono (by decide)) (by rfl) T.d_checked_name.g T.d_checked_name.F.kp T.d_checked_name.b .nil pass0 (pa_cons (pv 1) pa_nil)) rfl)
      (pss_cons (ps_fld (pv 0) (pe_call (ok_checked_boxes T) (hr.mono (by decide)) (by rfl) T.d_checked_boxes.g T.d_checked_boxes.F.kp T.d_checked_boxes.b .nil pass0 (pa_cons (pv 2) pa_nil)) rfl)
      (pss_cons (ps_if (pt_not (pt_val (pe_callB is_bool (by rfl) T.b_isinstance (by decide +kernel) (pa_cons (pv 3) (pa_cons (pe_bltn (v := .ty "bool") (by rfl) T.b_bool (by decide +kernel) rfl) pa_nil)))))
      (pss_one ps_never)
      pss_nil)
      (pss_cons (ps_fld (pv 0) (pv 3) rfl)
      (pss_cons (ps_fld (pv 0) (pe_call (ok_checked_gap T) (hr.mono (by decide)) (by rfl) T.d_checked_gap.g T.d_checked_gap.F.kp T.d_checked_gap.b .nil pass0 (pa_cons (pv 4) pa_nil)) rfl)
      (pss_cons (ps_fld (pv 0) (pe_call (ok_checked_gap T) (hr.mono (by decide)) (by rfl) T.d_checked_gap.g T.d_checked_gap.F.kp T.d_checked_gap.b .nil pass0 (pa_cons (pv 5) pa_nil)) rfl)
      (pss_cons (ps_fld (pv 0) (pe_call (ok_checked_pack T) (hr.mono (by decide)) (by rfl) T.d_checked_pack.g T.d_checked_pack.F.kp T.d_checked_pack.b .nil pass0 (pa_cons (pv 6) pa_nil)) rfl)
      (pss_cons (ps_fld (pv 0) (pe_call (ok_checked_stands T) (hr.mono (by decide)) (by rfl) T.d_checked_stands.g T.d_checked_stands.F.kp T.d_checked_stands.b .nil pass0 (pa_cons (pv 7) pa_nil)) rfl)
      (pss_one (ps_fld (pv 0) (pe_call (ok_checked_style T) (hr.mono (by decide)) (by rfl) T.d_checked_style.g T.d_checked_style.F.kp T.d_checked_style.b .nil pass0 (pa_cons (pv 8) pa_nil)) rfl)))))))))), ?_⟩
    tm_at "rzs"
    refine fun H1 s1 => ?_
    tm_at "rzs"
    refine ⟨x, _, dx, _, rfl, s1 _ _ hx, T.c_Row.cls, T.n_Row_name, Nat.lt_of_succ_le (Nat.le_of_ble_eq_true rfl), ?_⟩
    refine upd_gen fun H2 b2 g2 => ?_
    have B2 : But x H H2 := (Same.but s1).trans b2
    have K2 := KeepS.butE B2 hx
    have npx : p ≠ x := by rintro rfl; rw [hx] at hp; cases hp
    tm_at "rzs"
    refine ⟨p, ks, rfl, B2 _ _ npx hp, lk, fun j m => (hk j m).ks K2, fun q H3 s3 f3 g3 => ?_⟩
    have nqx : q ≠ x := by rintro rfl; rw [g2] at f3; cases f3
    tm_at "rzs"
    refine ⟨x, _, dx, _, rfl, s3 _ _ g2, T.c_Row.cls, T.n_Row_boxes, Nat.lt_of_succ_le (Nat.le_of_ble_eq_true rfl), ?_⟩
    refine upd_gen fun H4 b4 g4 => ?_
    tm_at "rzs"
    refine ⟨x, _, dx, _, rfl, g4, T.c_Row.cls, T.n_Row_turn, Nat.lt_of_succ_le (Nat.le_of_ble_eq_true rfl), ?_⟩
    refine upd_gen fun H5 b5 g5 => ?_
    tm_at "rzs"
    refine ⟨x, _, dx, _, rfl, g5, T.c_Row.cls, T.n_Row_gap, Nat.lt_of_succ_le (Nat.le_of_ble_eq_true rfl), ?_⟩
    refine upd_gen fun H6 b6 g6 => ?_
    tm_at "rzs"
    refine ⟨x, _, dx, _, rfl, g6, T.c_Row.cls, T.n_Row_lane, Nat.lt_of_succ_le (Nat.le_of_ble_eq_true rfl), ?_⟩
    refine upd_gen fun H7 b7 g7 => ?_
    tm_at "rzs"
    refine ⟨x, _, dx, _, rfl, g7, T.c_Row.cls, T.n_Row_pack, Nat.lt_of_succ_le (Nat.le_of_ble_eq_true rfl), ?_⟩
    refine upd_gen fun H8 b8 g8 => ?_
    tm_at "rzs"
    refine ⟨x, _, dx, _, rfl, g8, T.c_Row.cls, T.n_Row_stands, Nat.lt_of_succ_le (Nat.le_of_ble_eq_true rfl), ?_⟩
    refine upd_gen fun H9 b9 g9 => ?_
    have B49 : But x H3 H9 := b4.trans (b5.trans (b6.trans (b7.trans (b8.trans b9))))
    have B9 : But x H H9 := B2.trans ((Same.but s3).trans B49)
    tm_at "rzs"
    refine sty_step hs T.t_NO_RIMS (KeepS.butE B9 hx) fun y dy st H10 s10 si gy ls ok => ?_
    tm_at "rzs"
    refine ⟨x, _, dx, _, rfl, s10 _ _ g9, T.c_Row.cls, T.n_Row_style, Nat.lt_of_succ_le (Nat.le_of_ble_eq_true rfl), ?_⟩
    refine upd_gen fun H11 b11 g11 => ?_
    have ny := sty_ne gy ls (s10 _ _ g9) (show 7 ≠ 10 by decide)
    have B11 : But x H H11 := B9.trans ((Same.but s10).trans b11)
    exact k H11 st B11 si (.row g11 (b11 _ _ ny gy) (ok _ (KeepS.butE B11 hx)) hl g0 l0 (b11 _ _ nqx (s10 _ _ (B49 _ _ nqx g3))) lk fun j m => (hk j m).ks (KeepS.butE B11 hx))
end
end My
namespace My
open PySem PySem.Spec PyProof.Rows L2
section
variable {P : Program} {w : World} {K : PySem.W.Frag} {mg : Str → Option Value} {base : Heap}
theorem ok_Row_held_boxes (T : Tx w K mg) : FnOk P w K mg base CX0 1 T.d_Row_held_boxes.f T.d_Row_held_boxes.fd ["self"] (sp_held (bcT T) T.c_Style.C K .row) := by
  refine T.d_Row_held_boxes.F.ok sc_Row_held_boxes (fun vs H Q E h => ?_) (fun cdv A outer s H vs Q E hr h => ?_)
  · obtain ⟨_, rfl, _⟩ := h
    rfl
  · obtain ⟨t, rfl, hb, hk, k⟩ := h
    refine ⟨_, (pss_one (ps_ret (pe_fldK (K := K) rfl (pv 0) rfl))), ?_⟩
    tm_at "rzs"
    cases hb with
    | words => cases hk
    | picture => cases hk
    | row hx hy ok hn g0 l0 hb lk hk =>
      refine ⟨_, _, _, _, _, rfl, hx, T.c_Row.cls, T.n_Row_boxes, rfl, ?_⟩
      exact k _ H (Same.refl _) hb
    | pile => cases hk
    | grid => cases hk
end
end My
namespace My
open PySem PySem.Spec PyProof.Rows L2
section
variable {P : Program} {w : World} {K : PySem.W.Frag} {mg : Str → Option Value} {base : Heap}
theorem kb_Pile_init_3_gap_pack_stands_style (T : Tx w K mg) : ∃ mv : List Value, KBn K T.d_Pile_init.fd ["self", "name", "boxes", "gap", "pack", "stands", "style"] 3 ["gap", "pack", "stands", "style"] (fun us ws => pick1 0 us ++ pick1 1 us ++ pick1 2 us ++ pick1 0 ws ++ pick1 1 ws ++ pick1 2 ws ++ pick1 3 ws) (fun vs zs => pick1 0 vs ++ pick1 1 vs ++ pick1 2 vs ++ pick1 0 zs ++ pick1 1 zs ++ pick1 2 zs ++ pick1 3 zs) := by
  exact T.d_Pile_init.FD.kbinds0 3 ["gap", "pack", "stands", "style"] [] (fun us mv ws => pick1 0 us ++ pick1 1 us ++ pick1 2 us ++ pick1 0 ws ++ pick1 1 ws ++ pick1 2 ws ++ pick1 3 ws) (by intro z; cases z) (fun q hq => List.Sublist.subset (show List.Sublist _ _ from (.cons _ (.cons _ (.cons _ (.cons _ .slnil))))) hq) (fun r1 rm r2 => (((((((vals_pick r1 0).append (vals_pick r1 1)).append (vals_pick r1 2)).append (vals_pick r2 0)).append (vals_pick r2 1)).append (vals_pick r2 2)).append (vals_pick r2 3)))
    (fun D doc pm an cdv ct us mv ws h1 hm h2 => match us, mv, ws, h1, hm, h2 with | [_, _, _], [], [_, _, _, _], _, _, _ => (show _ = _ by kernel_rfl))
def sp_Pile_init (bc : Kd → Addr) (S U : Addr) (K : PySem.W.Frag) : Sp := fun vs H Q _ => ∃ (x dx p : Addr) (l : List Nat) (ks : List At) (gap : Int) (pack stands : String) (sv : V), vs = [.ref x, .str (sO l), .ref p, .int gap, sX pack, sX stands, sv] ∧ H x = some (.ins (bc .pile) dx []) ∧ NameOk l ∧ H p = some (.lst (refs ks)) ∧ ks.length ≤ 1000 ∧ (∀ k ∈ ks, BoxAt bc S K H k) ∧ 0 ≤ gap ∧ pack ∈ ["start", "end", "middle", "between"] ∧ stands ∈ ["start", "end", "middle", "stretch", "base"] ∧ StyAt K H S U sv ∧
  ∀ H' st, But x H H' → StyIs K H S U sv st → BoxAt bc S K H' (.mk x l st (.pile gap pack stands) ks) → Q .non H'
theorem ok_Pile_init (T : Tx w K mg) : FnOk P w K mg base CX0 7 T.d_Pile_init.f T.d_Pile_init.fd ["self", "name", "boxes", "gap", "pack", "stands", "style"] (sp_Pile_init (bcT T) T.c_Style.C T.U_NO_RIMS K) := by
  refine T.d_Pile_init.F.ok sc_Pile_init (fun vs H Q E h => ?_) (fun cdv A outer s H vs Q E hr h => ?_)
  · obtain ⟨x, dx, p, l, ks, gap, pack, stands, sv, rfl, _⟩ := h
    rfl
  · obtain ⟨x, dx, p, l, ks, gap, pack, stands, sv, rfl, hx, hl, hp, lk, hk, g0, mp, ms, hs, k⟩ := h
    refine ⟨_, (pss_cons (ps_fld (pv 0) (pe_call (ok_checked_name T) (hr.mono (by decide)) (by rfl) T.d_checked_name.g T.d_checked_name.F.kp T.d_checked_name.b .nil pass0 (pa_cons (pv 1) pa_nil)) rfl)
      (pss_cons (ps_fld (pv 0) (pe_call (ok_checked_boxes T) (hr.mono (by decide)) (by rfl) T.d_checked_boxes.g T.d_checked_boxes.F.kp T.d_checked_boxes.b .nil pass0 (pa_cons (pv 2) pa_nil)) rfl)
      (pss_cons (ps_fld (pv 0) (pe_call (ok_checked_gap T) (hr.mono (by decide)) (by rfl) T.d_checked_gap.g T.d_checked_gap.F.kp T.d_checked_gap.b .nil pass0 (pa_cons (pv 3) pa_nil)) rfl)
      (pss_cons (ps_fld (pv 0) (pe_call (ok_checked_pack T) (hr.mono (by decide)) (by rfl) T.d_checked_pack.g T.d_checked_pack.F.kp T.d_checked_pack.b .nil pass0 (pa_cons (pv 4) pa_nil)) rfl)
      (pss_cons (ps_fld (pv 0) (pe_call (ok_checked_stands T) (hr.mono (by decide)) (by rfl) T.d_checked_stands.g T.d_checked_stands.F.kp T.d_checked_stands.b .nil pass0 (pa_cons (pv 5) pa_nil)) rfl)
      (pss_one (ps_fld (pv 0) (pe_call (ok_checked_style T) (hr.mono (by decide)) (by rfl) T.d_checked_style.g T.d_checked_style.F.kp T.d_checked_style.b .nil pass0 (pa_cons (pv 6) pa_nil)) rfl))))))), ?_⟩
    tm_at "rzs"
    refine fun H1 s1 => ?_
    tm_at "rzs"
    refine ⟨x, _, dx, _, rfl, s1 _ _ hx, T.c_Pile.cls, T.n_Pile_name, Nat.lt_of_succ_le (Nat.le_of_ble_eq_true rfl), ?_⟩
    refine upd_gen fun H2 b2 g2 => ?_
    have B2 : But x H H2 := (Same.but s1).trans b2
    have K2 := KeepS.butE B2 hx
    have npx : p ≠ x := by rintro rfl; rw [hx] at hp; cases hp
    tm_at "rzs"
    refine ⟨p, ks, rfl, B2 _ _ npx hp, lk, fun j m => (hk j m).ks K2, fun q H3 s3 f3 g3 => ?_⟩
    have nqx : q ≠ x := by rintro rfl; rw [g2] at f3; cases f3
    tm_at "rzs"
    refine ⟨x, _, dx, _, rfl, s3 _ _ g2, T.c_Pile.cls, T.n_Pile_boxes, Nat.lt_of_succ_le (Nat.le_of_ble_eq_true rfl), ?_⟩
    refine upd_gen fun H4 b4 g4 => ?_
    tm_at "rzs"
    refine ⟨x, _, dx, _, rfl, g4, T.c_Pile.cls, T.n_Pile_gap, Nat.lt_of_succ_le (Nat.le_of_ble_eq_true rfl), ?_⟩
    refine upd_gen fun H5 b5 g5 => ?_
    tm_at "rzs"
    refine ⟨x, _, dx, _, rfl, g5, T.c_Pile.cls, T.n_Pile_pack, Nat.lt_of_succ_le (Nat.le_of_ble_eq_true rfl), ?_⟩
    refine upd_gen fun H8 b8 g8 => ?_
    tm_at "rzs"
    refine ⟨x, _, dx, _, rfl, g8, T.c_Pile.cls, T.n_Pile_stands, Nat.lt_of_succ_le (Nat.le_of_ble_eq_true rfl), ?_⟩
    refine upd_gen fun H9 b9 g9 => ?_
    have B49 : But x H3 H9 := b4.trans (b5.trans (b8.trans b9))
    have B9 : But x H H9 := B2.trans ((Same.but s3).trans B49)
    tm_at "rzs"
    refine sty_step hs T.t_NO_RIMS (KeepS.butE B9 hx) fun y dy st H10 s10 si gy ls ok => ?_
    tm_at "rzs"
    refine ⟨x, _, dx, _, rfl, s10 _ _ g9, T.c_Pile.cls, T.n_Pile_style, Nat.lt_of_succ_le (Nat.le_of_ble_eq_true rfl), ?_⟩
    refine upd_gen fun H11 b11 g11 => ?_
    have ny := sty_ne gy ls (s10 _ _ g9) (show 5 ≠ 10 by decide)
    have B11 : But x H H11 := B9.trans ((Same.but s10).trans b11)
    exact k H11 st B11 si (.pile g11 (b11 _ _ ny gy) (ok _ (KeepS.butE B11 hx)) hl g0 (b11 _ _ nqx (s10 _ _ (B49 _ _ nqx g3))) lk fun j m => (hk j m).ks (KeepS.butE B11 hx))
end
end My
namespace My
open PySem PySem.Spec PyProof.Rows L2
section
variable {P : Program} {w : World} {K : PySem.W.Frag} {mg : Str → Option Value} {base : Heap}
theorem ok_Pile_held_boxes (T : Tx w K mg) : FnOk P w K mg base CX0 1 T.d_Pile_held_boxes.f T.d_Pile_held_boxes.fd ["self"] (sp_held (bcT T) T.c_Style.C K .pile) := by
  refine T.d_Pile_held_boxes.F.ok sc_Pile_held_boxes (fun vs H Q E h => ?_) (fun cdv A outer s H vs Q E hr h => ?_)
  · obtain ⟨_, rfl, _⟩ := h
    rfl
  · obtain ⟨t, rfl, hb, hk, k⟩ := h
    refine ⟨_, (pss_one (ps_ret (pe_fldK (K := K) rfl (pv 0) rfl))), ?_⟩
    tm_at "rzs"
    cases hb with
    | words => cases hk
    | picture => cases hk
    | row => cases hk
    | pile hx hy ok hn g0 hb lk hk =>
      refine ⟨_, _, _, _, _, rfl, hx, T.c_Pile.cls, T.n_Pile_boxes, rfl, ?_⟩
      exact k _ H (Same.refl _) hb
    | grid => cases hk
end
end My
namespace My
open PySem PySem.Spec PyProof.Rows L2
section
variable {P : Program} {w : World} {K : PySem.W.Frag} {mg : Str → Option Value} {base : Heap}
theorem kb_Grid_init_4_columns_rows_gap_lane_stands_style (T : Tx w K mg) : ∃ mv : List Value, KBn K T.d_Grid_init.fd ["self", "name", "boxes", "spots", "columns", "rows", "gap", "lane", "stands", "style"] 4 ["columns", "rows", "gap", "lane", "stands", "style"] (fun us ws => pick1 0 us ++ pick1 1 us ++ pick1 2 us ++ pick1 3 us ++ pick1 0 ws ++ pick1 1 ws ++ pick1 2 ws ++ pick1 3 ws ++ pick1 4 ws ++ pick1 5 ws) (fun vs zs => pick1 0 vs ++ pick1 1 vs ++ pick1 2 vs ++ pick1 3 vs ++ pick1 0 zs ++ pick1 1 zs ++ pick1 2 zs ++ pick1 3 zs ++ pick1 4 zs ++ pick1 5 zs) := by
  exact T.d_Grid_init.FD.kbinds0 4 ["columns", "rows", "gap", "lane", "stands", "style"] [] (fun us mv ws => pick1 0 us ++ pick1 1 us ++ pick1 2 us ++ pick1 3 us ++ pick1 0 ws ++ pick1 1 ws ++ pick1 2 ws ++ pick1 3 ws ++ pick1 4 ws ++ pick1 5 ws) (by intro z; cases z) (fun q hq => List.Sublist.subset (show List.Sublist _ _ from (.cons _ (.cons _ (.cons _ (.cons _ .slnil))))) hq) (fun r1 rm r2 => ((((((((((vals_pick r1 0).append (vals_pick r1 1)).append (vals_pick r1 2)).append (vals_pick r1 3)).append (vals_pick r2 0)).append (vals_pick r2 1)).append (vals_pick r2 2)).append (vals_pick r2 3)).append (vals_pick r2 4)).append (vals_pick r2 5)))
    (fun D doc pm an cdv ct us mv ws h1 hm h2 => match us, mv, ws, h1, hm, h2 with | [_, _, _, _], [], [_, _, _, _, _, _], _, _, _ => (show _ = _ by kernel_rfl))
def sp_Grid_init (bc : Kd → Addr) (S U : Addr) (K : PySem.W.Frag) : Sp := fun vs H Q _ => ∃ (x dx p a c d : Addr) (l : List Nat) (ks : List At) (us xs ys : List V) (sp : List (Int × Int × Int × Int)) (ts us' : List Tk) (gap lane : Int) (stands : String) (sv : V), vs = [.ref x, .str (sO l), .ref p, .ref a, .ref c, .ref d, .int gap, .int lane, sX stands, sv] ∧ H x = some (.ins (bc .grid) dx []) ∧ NameOk l ∧
  H p = some (.lst (refs ks)) ∧ ks.length ≤ 1000 ∧ (∀ k ∈ ks, BoxAt bc S K H k) ∧ H a = some (.lst us) ∧ SpsAt H us sp ∧ sp.length = ks.length ∧ stB ts.length us'.length [] (sp.map spO) = true ∧
  H c = some (.lst xs) ∧ TksAt H xs ts ∧ (∀ t ∈ ts, t.ok) ∧ ts ≠ [] ∧ ts.length ≤ 1000 ∧ H d = some (.lst ys) ∧ TksAt H ys us' ∧ (∀ t ∈ us', t.ok) ∧ us' ≠ [] ∧ us'.length ≤ 1000 ∧ 0 ≤ gap ∧ 0 ≤ lane ∧ stands ∈ ["start", "end", "middle", "stretch", "base"] ∧ StyAt K H S U sv ∧
  ∀ H' st, But x H H' → StyIs K H S U sv st → BoxAt bc S K H' (.mk x l st (.grid sp ts us' gap lane stands) ks) → Q .non H'
theorem ok_Grid_init (T : Tx w K mg) : FnOk P w K mg base CX0 7 T.d_Grid_init.f T.d_Grid_init.fd ["self", "name", "boxes", "spots", "columns", "rows", "gap", "lane", "stands", "style"] (sp_Grid_init (bcT T) T.c_Style.C T.U_NO_RIMS K) := by
  refine T.d_Grid_init.F.ok sc_Grid_init (fun vs H Q E h => ?_) (fun cdv A outer s H vs Q E hr h => ?_)
  · obtain ⟨x, dx, p, a, c, d, l, ks, us, xs, ys, sp, ts, us', gap, lane, stands, sv, rfl, _⟩ := h
    rfl
  · obtain ⟨x, dx, p, a, c, d, l, ks, us, xs, ys, sp, ts, us', gap, lane, stands, sv, rfl, hx, hl, hp, lk, hk, ha, hsp, lsp, hst, hc, hts, okt, nt, ltn, hd, hus, oku, nu, lun, g0, l0, ms, hs, k⟩ := h
    refine ⟨_, (pss_cons (ps_fld (pv 0) (pe_call (ok_checked_name T) (hr.mono (by decide)) (by rfl) T.d_checked_name.g T.d_checked_name.F.kp T.d_checked_name.b .nil pass0 (pa_cons (pv 1) pa_nil)) rfl)
      (pss_cons (ps_fld (pv 0) (pe_call (ok_checked_boxes T) (hr.mono (by decide)) (by rfl) T.d_checked_boxes.g T.d_checked_boxes.F.kp T.d_checked_boxes.b .nil pass0 (pa_cons (pv 2) pa_nil)) rfl)
      (pss_cons (ps_if (PW.pt (pw_or (pt_not (pt_val (pe_call (ok_are_tracks T) (hr.mono (by decide)) (by rfl) T.d_are_tracks.g T.d_are_tracks.F.kp T.d_are_tracks.b .nil pass0 (pa_cons (pv 4) pa_nil)))) (pw_or1 (pt_not (pt_val (pe_call (ok_are_tracks T) (hr.mono (by decide)) (by rfl) T.d_are_tracks.g T.d_are_tracks.F.kp T.d_are_tracks.b .nil pass0 (pa_cons (pv 5) pa_nil)))))))
      (pss_one ps_never)
      pss_nil)
      (pss_cons (ps_if (pt_not (pt_val (pe_call (ok_are_spots T) (hr.mono (by decide)) (by rfl) T.d_are_spots.g T.d_are_spots.F.kp T.d_are_spots.b .nil pass0 (pa_cons (pv 3) (pa_cons (pe_callB (call_lenK (K := K) rfl) (by rfl) T.b_len (by decide +kernel) (pa_cons (pv 2) pa_nil)) (pa_cons (pe_callB (call_lenK (K := K) rfl) (by rfl) T.b_len (by decide +kernel) (pa_cons (pv 4) pa_nil)) (pa_cons (pe_callB (call_lenK (K := K) rfl) (by rfl) T.b_len (by decide +kernel) (pa_cons (pv 5) pa_nil)) pa_nil)))))))
      (pss_one ps_never)
      pss_nil)
      (pss_cons (ps_asg (pe_tupA (pa_cons (pe_callTy (call_tupLK (K := K) rfl) (by rfl) T.b_tuple (by decide +kernel) (pa_cons (pv 4) pa_nil)) (pa_cons (pe_callTy (call_tupLK (K := K) rfl) (by rfl) T.b_tuple (by decide +kernel) (pa_cons (pv 5) pa_nil)) pa_nil))) (pg_tup (by rfl) (pgs_cons (pg_fldK (K := K) rfl (pv 0)) (pgs_cons (pg_fldK (K := K) rfl (pv 0)) pgs_nil))))
      (pss_cons (ps_fld (pv 0) (pe_callTy (call_tupLK (K := K) rfl) (by rfl) T.b_tuple (by decide +kernel) (pa_cons (pv 3) pa_nil)) rfl)
      (pss_cons (ps_fld (pv 0) (pe_call (ok_checked_gap T) (hr.mono (by decide)) (by rfl) T.d_checked_gap.g T.d_checked_gap.F.kp T.d_checked_gap.b .nil pass0 (pa_cons (pv 6) pa_nil)) rfl)
      (pss_cons (ps_fld (pv 0) (pe_call (ok_checked_gap T) (hr.mono (by decide)) (by rfl) T.d_checked_gap.g T.d_checked_gap.F.kp T.d_checked_gap.b .nil pass0 (pa_cons (pv 7) pa_nil)) rfl)
      (pss_cons (ps_fld (pv 0) (pe_call (ok_checked_stands T) (hr.mono (by decide)) (by rfl) T.d_checked_stands.g T.d_checked_stands.F.kp T.d_checked_stands.b .nil pass0 (pa_cons (pv 8) pa_nil)) rfl)
      (pss_one (ps_fld (pv 0) (pe_call (ok_checked_style T) (hr.mono (by decide)) (by rfl) T.d_checked_style.g T.d_checked_style.F.kp T.d_checked_style.b .nil pass0 (pa_cons (pv 9) pa_nil)) rfl))))))))))), ?_⟩
    have npx : p ≠ x := by rintro rfl; rw [hx] at hp; cases hp
    have nax : a ≠ x := by rintro rfl; rw [hx] at ha; cases ha
    have ncx : c ≠ x := by rintro rfl; rw [hx] at hc; cases hc
    have ndx : d ≠ x := by rintro rfl; rw [hx] at hd; cases hd
    tm_at "rzs"
    refine fun H1 s1 => ?_
    tm_at "rzs"
    refine ⟨x, _, dx, _, rfl, s1 _ _ hx, T.c_Grid.cls, T.n_Grid_name, Nat.lt_of_succ_le (Nat.le_of_ble_eq_true rfl), ?_⟩
    refine upd_gen fun H2 b2 g2 => ?_
    have B2 : But x H H2 := (Same.but s1).trans b2
    tm_at "rzs"
    refine ⟨p, ks, rfl, B2 _ _ npx hp, lk, fun j m => (hk j m).ks (KeepS.butE B2 hx), fun q H3 s3 f3 g3 => ?_⟩
    have nqx : q ≠ x := by rintro rfl; rw [g2] at f3; cases f3
    tm_at "rzs"
    refine ⟨x, _, dx, _, rfl, s3 _ _ g2, T.c_Grid.cls, T.n_Grid_boxes, Nat.lt_of_succ_le (Nat.le_of_ble_eq_true rfl), ?_⟩
    refine upd_gen fun H4 b4 g4 => ?_
    have B4 : But x H H4 := B2.trans ((Same.but s3).trans b4)
    have K4 := KeepS.butE B4 hx
    tm_at "rzs"
    refine ⟨c, xs, ts, rfl, B4 _ _ ncx hc, K4.tks hts, okt, nt, ltn, fun H5 s5 => ?_⟩
    tm_at "rzs"
    refine ⟨d, ys, us', rfl, s5 _ _ (B4 _ _ ndx hd), (K4.same s5).tks hus, oku, nu, lun, fun H6 s6 => ?_⟩
    have K6 := (K4.same s5).same s6
    have B6 : But x H H6 := B4.trans (Same.but (s5.trans s6))
    tm_at "rzs"
    have a6 := s6 _ _ (s5 _ _ (B4 _ _ nax ha))
    refine ⟨a, us, sp.map spO, ks.length, (xs.length : Int), (ys.length : Int), by rw [show (refs ks).length = ks.length from by unfold refs; rw [List.length_map]]; rfl, a6, sps_ths (K6.sps hsp), by rw [List.length_map]; omega, fun H7 s7 => ?_⟩
    have e : (decide ((sp.map spO).length = ks.length) && stB (xs.length : Int) (ys.length : Int) [] (sp.map spO)) = true := by
      rw [hts.1, hus.1, hst, List.length_map, decide_eq_true lsp]; rfl
    rw [e]
    tm_at "rzs"
    have s47 := (s5.trans s6).trans s7
    have B7 : But x H H7 := B4.trans (Same.but s47)
    have hx7 := s47 _ _ g4
    refine ⟨c, xs, rfl, sqL (B7 _ _ ncx hc), fun p8 H8 f8 s8 g8 => ?_⟩
    tm_at "rzs"
    refine ⟨d, ys, rfl, sqL (s8 _ _ (B7 _ _ ndx hd)), fun p9 H9 f9 s9 g9 => ?_⟩
    tm_at "rzs"
    intro p10 H10 f10 s10 g10
    have s710 := s8.trans (s9.trans s10)
    have h10 := s710 _ _ hx7
    have n8 : p8 ≠ x := by rintro rfl; rw [hx7] at f8; cases f8
    have n9 : p9 ≠ x := by rintro rfl; rw [s8 _ _ hx7] at f9; cases f9
    refine ⟨p10, _, rfl, sqT g10, rfl, ?_⟩
    refine ⟨_, _, rfl, ?_⟩
    refine ⟨_, rfl, x, _, dx, _, rfl, h10, T.c_Grid.cls, T.n_Grid_columns, Nat.lt_of_succ_le (Nat.le_of_ble_eq_true rfl), ?_⟩
    with_reducible refine upd_gen (R := fun Hq => gCons (gFld K (tVar 0) "rows") gNil _ _ Hq _) fun H11 b11 g11 => ?_
    refine ⟨_, _, rfl, ?_⟩
    refine ⟨_, rfl, x, _, dx, _, rfl, g11, T.c_Grid.cls, T.n_Grid_rows, Nat.lt_of_succ_le (Nat.le_of_ble_eq_true rfl), ?_⟩
    with_reducible refine upd_gen (R := fun Hq => gNil _ _ Hq _) fun H12 b12 g12 => ?_
    refine ⟨rfl, ?_⟩
    have B12 : But x H10 H12 := b11.trans b12
    have B12' : But x H H12 := B7.trans ((Same.but s710).trans B12)
    have g8' : H12 p8 = some (.tup xs) := B12.app n8 (s10 _ _ (s9 _ _ g8))
    have g9' : H12 p9 = some (.tup ys) := B12.app n9 (s10 _ _ g9)
    have g3' : H12 q = some (.tup (refs ks)) := B12.app nqx (s710 _ _ (s47 _ _ (b4 _ _ nqx g3)))
    tm_at "rzs"
    refine ⟨a, us, rfl, sqL (B12' _ _ nax ha), fun p13 H13 f13 s13 g13 => ?_⟩
    have n13 : p13 ≠ x := by rintro rfl; rw [g12] at f13; cases f13
    tm_at "rzs"
    refine ⟨x, _, dx, _, rfl, s13 _ _ g12, T.c_Grid.cls, T.n_Grid_spots, Nat.lt_of_succ_le (Nat.le_of_ble_eq_true rfl), ?_⟩
    refine upd_gen fun H14 b14 g14 => ?_
    tm_at "rzs"
    refine ⟨x, _, dx, _, rfl, g14, T.c_Grid.cls, T.n_Grid_gap, Nat.lt_of_succ_le (Nat.le_of_ble_eq_true rfl), ?_⟩
    refine upd_gen fun H15 b15 g15 => ?_
    tm_at "rzs"
    refine ⟨x, _, dx, _, rfl, g15, T.c_Grid.cls, T.n_Grid_lane, Nat.lt_of_succ_le (Nat.le_of_ble_eq_true rfl), ?_⟩
    refine upd_gen fun H16 b16 g16 => ?_
    tm_at "rzs"
    refine ⟨x, _, dx, _, rfl, g16, T.c_Grid.cls, T.n_Grid_stands, Nat.lt_of_succ_le (Nat.le_of_ble_eq_true rfl), ?_⟩
    refine upd_gen fun H17 b17 g17 => ?_
    have B17 : But x H13 H17 := b14.trans (b15.trans (b16.trans b17))
    have B17' : But x H H17 := B12'.trans ((Same.but s13).trans B17)
    tm_at "rzs"
    refine sty_step hs T.t_NO_RIMS (KeepS.butE B17' hx) fun y dy st H18 s18 si gy ls ok => ?_
    tm_at "rzs"
    refine ⟨x, _, dx, _, rfl, s18 _ _ g17, T.c_Grid.cls, T.n_Grid_style, Nat.lt_of_succ_le (Nat.le_of_ble_eq_true rfl), ?_⟩
    refine upd_gen fun H19 b19 g19 => ?_
    have ny := sty_ne gy ls (s18 _ _ g17) (show 8 ≠ 10 by decide)
    have B19 : But x H H19 := B17'.trans ((Same.but s18).trans b19)
    have K19 := KeepS.butE B19 hx
    have c19 : ∀ b o, b ≠ x → H12 b = some o → H19 b = some o := fun b o n e => b19 _ _ n (s18 _ _ (B17 _ _ n (s13 _ _ e)))
    exact k H19 st B19 si (.grid g19 (b19 _ _ ny gy) (ok _ K19) hl g0 l0 (c19 _ _ nqx g3') lk (fun j m => (hk j m).ks K19) (c19 _ _ n8 g8') (K19.tks hts) okt nt (c19 _ _ n9 g9') (K19.tks hus) oku nu (b19 _ _ n13 (s18 _ _ (B17 _ _ n13 g13))) (K19.sps hsp) lsp ltn lun)
end
end My
namespace My
open PySem PySem.Spec PyProof.Rows L2
section
variable {P : Program} {w : World} {K : PySem.W.Frag} {mg : Str → Option Value} {base : Heap}
theorem ok_Grid_held_boxes (T : Tx w K mg) : FnOk P w K mg base CX0 1 T.d_Grid_held_boxes.f T.d_Grid_held_boxes.fd ["self"] (sp_held (bcT T) T.c_Style.C K .grid) := by
  refine T.d_Grid_held_boxes.F.ok sc_Grid_held_boxes (fun vs H Q E h => ?_) (fun cdv A outer s H vs Q E hr h => ?_)
  · obtain ⟨_, rfl, _⟩ := h
    rfl
  · obtain ⟨t, rfl, hb, hk, k⟩ := h
    refine ⟨_, (pss_one (ps_ret (pe_fldK (K := K) rfl (pv 0) rfl))), ?_⟩
    tm_at "rzs"
    cases hb with
    | words => cases hk
    | picture => cases hk
    | row => cases hk
    | pile => cases hk
    | grid hx hy ok hn g0 l0 hb lk hk hc tc oc nc hr tr or nr hs ts lsp lcs lrs =>
      refine ⟨_, _, _, _, _, rfl, hx, T.c_Grid.cls, T.n_Grid_boxes, rfl, ?_⟩
      exact k _ H (Same.refl _) hb
theorem poly_held_boxes (T : Tx w K mg) (kd : Kd) : HeldM P w K mg base 1 (bcT T kd) "held_boxes" (sp_held (bcT T) T.c_Style.C K kd) := by
  cases kd with
  | words => exact ⟨_, _, _, T.c_Words.cls, ⟨T.mh_Words, T.d_Box_held_boxes.n, T.d_Box_held_boxes.F.kp⟩, (ok_Box_held_boxes T).imp (fun _ _ _ _ ⟨t, e, b, k, q⟩ => ⟨t, e, b, .inl k, q⟩), T.d_Box_held_boxes.b⟩
  | picture => exact ⟨_, _, _, T.c_Picture.cls, ⟨T.mh_Picture, T.d_Box_held_boxes.n, T.d_Box_held_boxes.F.kp⟩, (ok_Box_held_boxes T).imp (fun _ _ _ _ ⟨t, e, b, k, q⟩ => ⟨t, e, b, .inr k, q⟩), T.d_Box_held_boxes.b⟩
  | row => exact ⟨_, _, _, T.c_Row.cls, T.d_Row_held_boxes.meth, ok_Row_held_boxes T, T.d_Row_held_boxes.b⟩
  | pile => exact ⟨_, _, _, T.c_Pile.cls, T.d_Pile_held_boxes.meth, ok_Pile_held_boxes T, T.d_Pile_held_boxes.b⟩
  | grid => exact ⟨_, _, _, T.c_Grid.cls, T.d_Grid_held_boxes.meth, ok_Grid_held_boxes T, T.d_Grid_held_boxes.b⟩
end
end My
namespace My
open PySem PySem.Spec PyProof.Rows L2
section
variable {P : Program} {w : World} {K : PySem.W.Frag} {mg : Str → Option Value} {base : Heap}
def sp_stand_of (bc : Kd → Addr) (S : Addr) (K : PySem.W.Frag) : Sp := fun vs H Q _ => ∃ (b a : At), vs = [.ref b.x, .ref a.x] ∧ BoxAt bc S K H b ∧ BoxAt bc S K H a ∧ a.own.kd ≠ .words ∧ a.own.kd ≠ .picture ∧ Q (standV b a) H
theorem ok_stand_of (T : Tx w K mg) : FnOk P w K mg base CX0 1 T.d_stand_of.f T.d_stand_of.fd ["box", "holder"] (sp_stand_of (bcT T) T.c_Style.C K) := by
  refine T.d_stand_of.F.ok sc_stand_of (fun vs H Q E h => ?_) (fun cdv A outer s H vs Q E hr h => ?_)
  · obtain ⟨b, a, rfl, _⟩ := h
    rfl
  · obtain ⟨b, a, rfl, hb, ha, n1, n2, k⟩ := h
    refine ⟨_, (pss_cons (ps_if (pt_cmpR op_isN (pe_fldK (K := K) rfl (pe_fldK (K := K) rfl (pv 0) rfl) rfl) pe_non (nomark _))
      (pss_one (ps_ret (pe_fldK (K := K) rfl (pv 1) rfl)))
      pss_nil)
      (pss_one (ps_ret (pe_fldK (K := K) rfl (pe_fldK (K := K) rfl (pv 0) rfl) rfl)))), ?_⟩
    obtain ⟨bd, y, dy, fs, hbx, ln, ls, hy, lh, hn, ok⟩ := hb.ob
    obtain ⟨w0, w1, w2, w3, w4, w5, w6, w7, w8, w9, eb⟩ := ten ok.1
    have k : Q (if w9 = .non then sX a.own.stands else w9) H := by unfold standV at k; rw [eb] at k; exact k
    rw [eb] at hy
    tm_at "rds"
    refine ⟨_, _, _, _, _, rfl, hbx, (kdT T).cl _, (kdT T).sy _, ls, ?_⟩
    tm_at "rds"
    refine ⟨_, _, _, _, _, rfl, hy, T.c_Style.cls, T.n_Style_stand, rfl, ?_⟩
    tm_at "rds"
    by_cases e : w9 = .non
    · rw [if_pos e] at k
      refine iteT' (decide_eq_true e) ?_
      tm_at "rds"
      obtain ⟨adx, afs, hax, las⟩ := ha.stands n1 n2
      cases hk : a.own.kd with
      | words => exact absurd hk n1
      | picture => exact absurd hk n2
      | row => rw [hk] at hax; exact ⟨_, _, _, _, _, rfl, hax, T.c_Row.cls, T.n_Row_stands, las, k⟩
      | pile => rw [hk] at hax; exact ⟨_, _, _, _, _, rfl, hax, T.c_Pile.cls, T.n_Pile_stands, las, k⟩
      | grid => rw [hk] at hax; exact ⟨_, _, _, _, _, rfl, hax, T.c_Grid.cls, T.n_Grid_stands, las, k⟩
    · rw [if_neg e] at k
      refine iteF' (decide_eq_false e) ?_
      tm_at "rds"
      refine ⟨_, _, _, _, _, rfl, hbx, (kdT T).cl _, (kdT T).sy _, ls, ?_⟩
      tm_at "rds"
      exact ⟨_, _, _, _, _, rfl, hy, T.c_Style.cls, T.n_Style_stand, rfl, k⟩
end
end My
namespace My
open PySem PySem.Spec PyProof.Rows L2
section
variable {P : Program} {w : World} {K : PySem.W.Frag} {mg : Str → Option Value} {base : Heap}
def sp_tied : Sp := fun vs H Q _ => ∃ (a : Addr) (l : List Nat) (sd : String) (m : Int), vs = [.ref a] ∧ H a = some (.tup [sX "as", .str (sO l), sX sd, .int m]) ∧ ∀ p H', Same H H' → H p = none → H' p = some (.tup [.str (sO l), sX sd]) → Q (.ref p) H'
theorem ok_tied (T : Tx w K mg) : FnOk P w K mg base CX0 1 T.d_tied.f T.d_tied.fd ["size"] (sp_tied) := by
  refine T.d_tied.F.ok sc_tied (fun vs H Q E h => ?_) (fun cdv A outer s H vs Q E hr h => ?_)
  · obtain ⟨a, l, sd, m, rfl, _⟩ := h
    rfl
  · obtain ⟨a, l, sd, m, rfl, ha, k⟩ := h
    refine ⟨_, (pss_cons (ps_asg (pv 0) (pg_tup (by rfl) (pgs_cons (pg_name (i := 1) sc_tied.nd rfl (Or.inl rfl)) (pgs_cons (pg_name (i := 2) sc_tied.nd rfl (Or.inl rfl)) (pgs_cons (pg_name (i := 3) sc_tied.nd rfl (Or.inl rfl)) (pgs_cons (pg_name (i := 4) sc_tied.nd rfl (Or.inl rfl)) pgs_nil))))))
      (pss_one (ps_ret (pe_tupA (pa_cons (pv 2) (pa_cons (pv 3) pa_nil)))))), ?_⟩
    tm_at "rds"
    refine ⟨a, _, rfl, sqT ha, rfl, ?_⟩
    tm_at "rds"
    intro p H1 f1 s1 g1
    exact k p H1 s1 f1 g1
end
end My
namespace My
open PySem PySem.Spec PyProof.Rows L2
section
variable {P : Program} {w : World} {K : PySem.W.Frag} {mg : Str → Option Value} {base : Heap}
def sp_all_of (bc : Kd → Addr) (S : Addr) (K : PySem.W.Frag) : Sp := fun vs H Q _ => ∃ (a : Addr) (ks : List At) (wd : String), vs = [.ref a, sX wd] ∧ (SqL K H a (refs ks) ∨ SqT K H a (refs ks)) ∧ (∀ k ∈ ks, BoxAt bc S K H k) ∧ ks.length ≤ 1000 ∧ NewIts H (allI ks wd) Q
theorem ok_all_of (T : Tx w K mg) : FnOk P w K mg base CX0 1 T.d_all_of.f T.d_all_of.fd ["boxes", "word"] (sp_all_of (bcT T) T.c_Style.C K) := by
  refine T.d_all_of.F.ok sc_all_of (fun vs H Q E h => ?_) (fun cdv A outer s H vs Q E hr h => ?_)
  · obtain ⟨a, ks, wd, rfl, _⟩ := h
    rfl
  · obtain ⟨a, ks, wd, rfl, ha, hb, lk, k⟩ := h
    refine ⟨_, (pss_one (ps_ret (pe_lc (own := [("one", 2)]) (g := gName 2) (by rfl) sc_all_of.nd (pi_seqK (K := K) rfl (pv 0)) (blkOk_by (own := [("one", 2)]) (N := N_all_of) (sc := defScope s_all_of) (by decide +kernel)) (fun _ _ _ _ _ => (pg_name (i := 2) sc_all_of.nd rfl (Or.inl rfl))) (fun _ _ _ _ _ => pts_nil) (fun _ _ _ _ _ => (pe_tupA (pa_cons (pe_fldK (K := K) rfl (pv 2) rfl) (pa_cons (pv 1) pa_nil))))))), ?_⟩
    rcases ha with ha | ha
    · refine .inl ⟨_, rfl, a, rfl, ⟨_, ha⟩, fun D hD => lcLs (K := K) (fun k : At => V.ref k.x) (ys := ks) (fun i v H => ∀ k, ks[i]? = some k → ItAt H v (k.nm, wd)) (fun i v Ha Hb acc h g b k e => by
        obtain ⟨p, e1, e2⟩ := h k e
        exact ⟨p, e1, tup_but b g e2⟩) hD ha (by omega) (fun i y H' Kt Kf acc hy s hacc kk => ?_) (fun us H' s hl hu hg => ?_)⟩
      · have hby := (hb y (List.mem_of_getElem? hy)).ks (Same.ks s)
        obtain ⟨kd, ky, kdy, kfs, hkx, kln, _⟩ := hby.ob
        tm_at "rds"
        refine ⟨_, _, _, _, _, rfl, hkx, (kdT T).cl _, (kdT T).nm _, kln, ?_⟩
        tm_at "rds"
        intro p H4 f4 s4 g4
        exact kk _ _ s4 fun k e => by rw [hy] at e; cases e; exact .of g4
      · exact k D us H' s hD hg (all_its hl hu)
    · refine .inr ⟨_, rfl, a, rfl, ⟨_, ha⟩, fun D hD => lcTs (K := K) (fun k : At => V.ref k.x) (ys := ks) (fun i v H => ∀ k, ks[i]? = some k → ItAt H v (k.nm, wd)) (fun i v Ha Hb acc h g b k e => by
        obtain ⟨p, e1, e2⟩ := h k e
        exact ⟨p, e1, tup_but b g e2⟩) hD ha (by omega) (fun i y H' Kt Kf acc hy s hacc kk => ?_) (fun us H' s hl hu hg => ?_)⟩
      · have hby := (hb y (List.mem_of_getElem? hy)).ks (Same.ks s)
        obtain ⟨kd, ky, kdy, kfs, hkx, kln, _⟩ := hby.ob
        tm_at "rds"
        refine ⟨_, _, _, _, _, rfl, hkx, (kdT T).cl _, (kdT T).nm _, kln, ?_⟩
        tm_at "rds"
        intro p H4 f4 s4 g4
        exact kk _ _ s4 fun k e => by rw [hy] at e; cases e; exact .of g4
      · exact k D us H' s hD hg (all_its hl hu)
end
end My
namespace My
open PySem PySem.Spec PyProof.Rows L2
section
variable {P : Program} {w : World} {K : PySem.W.Frag} {mg : Str → Option Value} {base : Heap}
def sp_holder_box (bc : Kd → Addr) (S C : Addr) (K : PySem.W.Frag) : Sp := fun vs H Q _ => ∃ (x : Addr) (t b : At) (hv : V) (ho : Option At), vs = [.ref x, .str (sO b.nm)] ∧ NestAt C H x t ∧ ((t.pre .non).map (·.2.1)).Nodup ∧ (b.x, b.nm, hv) ∈ t.pre .non ∧ HoAt bc S K H t b hv ho ∧ Q (match ho with | some a => .ref a.x | none => .non) H
theorem ok_holder_box (T : Tx w K mg) : FnOk P w K mg base CX0 1 T.d_holder_box.f T.d_holder_box.fd ["nest", "name"] (sp_holder_box (bcT T) T.c_Style.C T.c_Nest.C K) := by
  refine T.d_holder_box.F.ok sc_holder_box (fun vs H Q E h => ?_) (fun cdv A outer s H vs Q E hr h => ?_)
  · obtain ⟨x, t, b, hv, ho, rfl, _⟩ := h
    rfl
  · obtain ⟨x, t, b, hv, ho, rfl, hN, nd, me, hho, k⟩ := h
    obtain ⟨dx, o, d1, d2, hx, ho', h1, h2⟩ := hN
    refine ⟨_, (pss_cons (ps_set (i := 2) sc_holder_box.nd rfl (Or.inl rfl) (pe_dget (hu_of hr) (pe_fldK (K := K) rfl (pv 0) rfl) (pv 1) (fun _ _ => rfl)))
      (pss_cons (ps_if (pt_cmpR op_isN (pv 2) pe_non (nomark _))
      (pss_one (ps_ret pe_non))
      pss_nil)
      (pss_one (ps_ret (pe_dget (hu_of hr) (pe_fldK (K := K) rfl (pv 0) rfl) (pv 2) (fun _ _ => rfl)))))), ?_⟩
    have vh := val_at (f := fun e => e.2.2) nd me
    tm_at "rds"
    refine ⟨_, _, _, _, _, rfl, hx, T.c_Nest.cls, T.n_Nest_holder_by, rfl, ?_⟩
    tm_at "rds"
    refine ⟨d2, _, rfl, .inl ⟨hds (t.pre .non), keyS b.nm, .inl h2, rfl, vh.symm⟩, ?_⟩
    dsimp only [gName]
    tm_at "rds"
    rcases hho with ⟨rfl, rfl⟩ | ⟨a, hw, rfl, ma, ba, rfl, _⟩
    · refine iteT' (by rfl) ?_
      tm_at "rds"
      exact k
    · have va := val_at (f := fun e => V.ref e.1) nd ma
      refine iteF' (by rfl) ?_
      tm_at "rds"
      refine ⟨_, _, _, _, _, rfl, hx, T.c_Nest.cls, T.n_Nest_box_by, rfl, ?_⟩
      tm_at "rds"
      refine ⟨d1, _, rfl, .inl ⟨bxs (t.pre .non), keyS a.nm, .inl h1, rfl, va.symm⟩, ?_⟩
      exact k
end
end My
namespace My
open PySem PySem.Spec PyProof.Rows L2
section
variable {P : Program} {w : World} {K : PySem.W.Frag} {mg : Str → Option Value} {base : Heap}
theorem ok_wish_needs (T : Tx w K mg) : FnOk P w K mg base CX0 9 T.d_wish_needs.f T.d_wish_needs.fd ["nest", "frame", "name"] (sp_need "wish" (bcT T) T.c_Style.C T.c_Nest.C K) := by
  refine T.d_wish_needs.F.ok sc_wish_needs (fun vs H Q E h => ?_) (fun cdv A outer s H vs Q E hr h => ?_)
  · obtain ⟨x, fp, t, b, hv, ho, zw, zh, fw, fh, rfl, _⟩ := h
    rfl
  · obtain ⟨x, fp, t, b, hv, ho, zw, zh, fw, fh, rfl, hN, nd, me, hb, hho, hzw, hzh, hfp, hro, k⟩ := h
    have hN0 := hN
    obtain ⟨dx, o, d1, d2, hx, hoo, h1, h2⟩ := hN
    refine ⟨_, (pss_cons (ps_set (i := 3) sc_wish_needs.nd rfl (Or.inl rfl) (pe_dget (hu_of hr) (pe_fldK (K := K) rfl (pv 0) rfl) (pv 2) (fun _ _ => rfl)))
      (pss_cons (ps_if (pt_val (pe_call (ok_is_part T) (hr.mono (by decide)) (by rfl) T.d_is_part.g T.d_is_part.F.kp T.d_is_part.b .nil pass0 (pa_cons (pe_fldK (K := K) rfl (pe_fldK (K := K) rfl (pv 3) rfl) rfl) pa_nil)))
      (pss_one (ps_ret (pe_lstA (pa_cons (pe_tupA (pa_cons (pe_dget (hu_of hr) (pe_fldK (K := K) rfl (pv 0) rfl) (pv 2) (fun _ _ => rfl)) (pa_cons pe_str pa_nil))) pa_nil))))
      pss_nil)
      (pss_cons (ps_if (pt_val (pe_call (ok_is_tie T) (hr.mono (by decide)) (by rfl) T.d_is_tie.g T.d_is_tie.F.kp T.d_is_tie.b .nil pass0 (pa_cons (pe_fldK (K := K) rfl (pe_fldK (K := K) rfl (pv 3) rfl) rfl) pa_nil)))
      (pss_one (ps_ret (pe_lstA (pa_cons (pe_call (ok_tied T) (hr.mono (by decide)) (by rfl) T.d_tied.g T.d_tied.F.kp T.d_tied.b .nil pass0 (pa_cons (pe_fldK (K := K) rfl (pe_fldK (K := K) rfl (pv 3) rfl) rfl) pa_nil)) pa_nil))))
      pss_nil)
      (pss_cons (ps_if (pt_cmpR op_notN (pe_fldK (K := K) rfl (pe_fldK (K := K) rfl (pv 3) rfl) rfl) pe_non (nomark _))
      (pss_one (ps_ret (pe_lstA pa_nil)))
      pss_nil)
      (pss_cons (ps_set (i := 4) sc_wish_needs.nd rfl (Or.inl rfl) (pe_call (ok_all_of T) (hr.mono (by decide)) (by rfl) T.d_all_of.g T.d_all_of.F.kp T.d_all_of.b .nil pass0 (pa_cons (pe_methK (pv 3) (poly_held_boxes T) (hr.mono (by decide))) (pa_cons pe_str pa_nil))))
      (pss_cons (ps_if (pt_val (pe_callB (call_isiK (K := K) rfl) (by rfl) T.b_isinstance (by decide +kernel) (pa_cons (pv 3) (pa_cons (pe_glob (v := .ref T.c_Grid.C) (by rfl) T.c_Grid.g rfl) pa_nil))))
      (pss_one (ps_aug (i := 4) sc_wish_needs.nd rfl (Or.inl rfl) (pe_call (ok_all_of T) (hr.mono (by decide)) (by rfl) T.d_all_of.g T.d_all_of.F.kp T.d_all_of.b .nil pass0 (pa_cons (pe_fldK (K := K) rfl (pv 3) rfl) (pa_cons pe_str pa_nil))) ip_extA))
      pss_nil)
      (pss_one (ps_ret (pv 4))))))))), ?_⟩
    have va := val_at (f := fun e => V.ref e.1) nd me
    have vh := val_at (f := fun e => e.2.2) nd me
    obtain ⟨bd, y, dy, fs, hbx, ln, ls, hy, lh, hn, ok⟩ := hb.ob
    obtain ⟨w0, w1, w2, w3, w4, w5, w6, w7, w8, w9, eb⟩ := ten ok.1
    have hyw := hy
    rw [eb] at hyw
    have hz0 : SzV H w0 zw := by rw [eb] at hzw; exact hzw
    have hz1 : SzV H w1 zh := by rw [eb] at hzh; exact hzh
    tm_at "rds"
    refine ⟨_, _, _, _, _, rfl, hx, T.c_Nest.cls, T.n_Nest_box_by, rfl, ?_⟩
    tm_at "rds"
    refine ⟨d1, _, rfl, .inl ⟨bxs (t.pre .non), keyS b.nm, .inl h1, rfl, va.symm⟩, ?_⟩
    dsimp only [gName]
    tm_at "rds"
    have k : NewIts H (wishI b zw ho) Q := k
    refine ⟨_, _, _, _, _, rfl, hbx, (kdT T).cl _, (kdT T).sy _, ls, ?_⟩
    tm_at "rds"
    refine ⟨_, _, _, _, _, rfl, hyw, T.c_Style.cls, T.n_Style_wide, rfl, ?_⟩
    dsimp only [tNil, List.cons_append, List.nil_append]
    refine isPartP hz0.pt ?_
    refine ⟨_, rfl, ?_⟩
    cases zw with
    | part n =>
      refine iteT' (by rfl) ?_
      rcases hho with ⟨_, rfl⟩ | ⟨a, hw, rfl, ma, ba, rfl, mk⟩
      · have := (hro rfl).1
        cases this
      tm_at "rds"
      refine ⟨_, _, _, _, _, rfl, hx, T.c_Nest.cls, T.n_Nest_holder_by, rfl, ?_⟩
      tm_at "rds"
      refine ⟨d2, _, rfl, .inl ⟨hds (t.pre .non), keyS b.nm, .inl h2, rfl, vh.symm⟩, ?_⟩
      tm_at "rds"
      intro p1 H1 f1 s1 g1
      tm_at "rds"
      intro p2 H2 f2 s2 g2
      exact k p2 _ H2 (s1.trans s2) (s1.free f2) g2 (.cons (.of (s2 _ _ g1)) .nil)
    | tie l sd m =>
      refine iteF' (by rfl) ?_
      tm_at "rds"
      refine ⟨_, _, _, _, _, rfl, hbx, (kdT T).cl _, (kdT T).sy _, ls, ?_⟩
      tm_at "rds"
      refine ⟨_, _, _, _, _, rfl, hyw, T.c_Style.cls, T.n_Style_wide, rfl, ?_⟩
      dsimp only [tNil, List.cons_append, List.nil_append]
      refine isTieP hz0.ti ?_
      refine ⟨_, rfl, ?_⟩
      refine iteT' (by rfl) ?_
      tm_at "rds"
      refine ⟨_, _, _, _, _, rfl, hbx, (kdT T).cl _, (kdT T).sy _, ls, ?_⟩
      tm_at "rds"
      refine ⟨_, _, _, _, _, rfl, hyw, T.c_Style.cls, T.n_Style_wide, rfl, ?_⟩
      obtain ⟨ta, et, gt⟩ := hz0
      subst et
      refine ⟨ta, l, sd, m, rfl, gt, fun p1 H1 s1 f1 g1 => ?_⟩
      tm_at "rds"
      intro p2 H2 f2 s2 g2
      exact k p2 _ H2 (s1.trans s2) (s1.free f2) g2 (.cons (.of (s2 _ _ g1)) .nil)
    | cells n =>
      refine iteF' (by rfl) ?_
      tm_at "rds"
      refine ⟨_, _, _, _, _, rfl, hbx, (kdT T).cl _, (kdT T).sy _, ls, ?_⟩
      tm_at "rds"
      refine ⟨_, _, _, _, _, rfl, hyw, T.c_Style.cls, T.n_Style_wide, rfl, ?_⟩
      dsimp only [tNil, List.cons_append, List.nil_append]
      refine isTieP hz0.ti ?_
      refine ⟨_, rfl, ?_⟩
      refine iteF' (by rfl) ?_
      tm_at "rds"
      refine ⟨_, _, _, _, _, rfl, hbx, (kdT T).cl _, (kdT T).sy _, ls, ?_⟩
      tm_at "rds"
      refine ⟨_, _, _, _, _, rfl, hyw, T.c_Style.cls, T.n_Style_wide, rfl, ?_⟩
      have e0 : w0 = .int (n : Int) := hz0
      subst e0
      tm_at "rzs"
      intro p1 H1 f1 s1 g1
      exact k p1 _ H1 s1 f1 g1 .nil
    | non =>
      refine iteF' (by rfl) ?_
      tm_at "rds"
      refine ⟨_, _, _, _, _, rfl, hbx, (kdT T).cl _, (kdT T).sy _, ls, ?_⟩
      tm_at "rds"
      refine ⟨_, _, _, _, _, rfl, hyw, T.c_Style.cls, T.n_Style_wide, rfl, ?_⟩
      dsimp only [tNil, List.cons_append, List.nil_append]
      refine isTieP hz0.ti ?_
      refine ⟨_, rfl, ?_⟩
      refine iteF' (by rfl) ?_
      tm_at "rds"
      refine ⟨_, _, _, _, _, rfl, hbx, (kdT T).cl _, (kdT T).sy _, ls, ?_⟩
      tm_at "rds"
      refine ⟨_, _, _, _, _, rfl, hyw, T.c_Style.cls, T.n_Style_wide, rfl, ?_⟩
      have e0 : w0 = .non := hz0
      subst e0
      tm_at "rzs"
      refine ⟨b.x, b.own.kd, bd, fs, rfl, hbx, lh, b, rfl, hb, rfl, fun q1 H10 s10 g10 => ?_⟩
      tm_at "rds"
      refine ⟨q1, b.kids, "wish", rfl, .inr (sqT g10), (hb.ks (Same.ks s10)).kid, hb.few, fun p1 u1 H1 s1 f1 g1 i1 => ?_⟩
      have s01 := s10.trans s1
      dsimp only [gName]
      tm_at "rds"
      refine ⟨_, _, _, _, decide (b.own.kd = .grid), rfl, .own _, (hb.ks (Same.ks s01)).tyx (kdT T), (kdT T).is_ b.own.kd .grid, ?_⟩
      refine ⟨_, rfl, ?_⟩
      have l1 : u1.length ≤ 1000 := by rw [i1.1, allI_len]; exact hb.few
      by_cases e : b.own.kd = .grid
      · refine iteT' (decide_eq_true e) ?_
        obtain ⟨xd, xq, xf, hxx, lxb, hxq⟩ := hb.boxesA (by rw [e]; decide) (by rw [e]; decide)
        rw [e] at hxx
        tm_at "rds"
        refine ⟨_, _, _, _, _, rfl, s01 _ _ hxx, T.c_Grid.cls, T.n_Grid_boxes, lxb, ?_⟩
        tm_at "rds"
        refine ⟨xq, b.kids, "least", rfl, .inr (sqT (s01 _ _ hxq)), (hb.ks (Same.ks s01)).kid, hb.few, fun p2 u2 H2 s2 f2 g2 i2 => ?_⟩
        have l2 : u2.length ≤ 1000 := by rw [i2.1, allI_len]; exact hb.few
        refine ⟨p1, p2, _, _, rfl, rfl, s2 _ _ g1, g2, by rw [sizeLine_eq]; omega, fun H3 b3 g3 => ?_⟩
        have f01 : H p1 = none := s10.free f1
        have k3 : KeepS H2 H3 := KeepS.refl.butL b3 (s2 _ _ g1)
        tm_at "rds"
        refine k p1 _ H3 (Same.mut' (s01.trans s2) b3 f01) f01 g3 ?_
        unfold wishI
        rw [if_pos e]
        exact (i1.ks ((Same.ks s2).trans k3)).app (i2.ks k3)
      · refine iteF' (decide_eq_false e) ?_
        tm_at "rds"
        refine k p1 _ H1 s01 (s10.free f1) g1 ?_
        unfold wishI
        rw [if_neg e, List.append_nil]
        exact i1
end
end My
namespace My
open PySem PySem.Spec PyProof.Rows L2
section
variable {P : Program} {w : World} {K : PySem.W.Frag} {mg : Str → Option Value} {base : Heap}
theorem ok_least_needs (T : Tx w K mg) : FnOk P w K mg base CX0 2 T.d_least_needs.f T.d_least_needs.fd ["nest", "frame", "name"] (sp_need "least" (bcT T) T.c_Style.C T.c_Nest.C K) := by
  refine T.d_least_needs.F.ok sc_least_needs (fun vs H Q E h => ?_) (fun cdv A outer s H vs Q E hr h => ?_)
  · obtain ⟨x, fp, t, b, hv, ho, zw, zh, fw, fh, rfl, _⟩ := h
    rfl
  · obtain ⟨x, fp, t, b, hv, ho, zw, zh, fw, fh, rfl, hN, nd, me, hb, hho, hzw, hzh, hfp, hro, k⟩ := h
    have hN0 := hN
    obtain ⟨dx, o, d1, d2, hx, hoo, h1, h2⟩ := hN
    refine ⟨_, (pss_cons (ps_set (i := 3) sc_least_needs.nd rfl (Or.inl rfl) (pe_dget (hu_of hr) (pe_fldK (K := K) rfl (pv 0) rfl) (pv 2) (fun _ _ => rfl)))
      (pss_cons (ps_if (pt_cmpR op_notN (pe_fldK (K := K) rfl (pe_fldK (K := K) rfl (pv 3) rfl) rfl) pe_non (nomark _))
      (pss_one (ps_ret (pe_lstA pa_nil)))
      pss_nil)
      (pss_cons (ps_set (i := 4) sc_least_needs.nd rfl (Or.inl rfl) (pe_call (ok_all_of T) (hr.mono (by decide)) (by rfl) T.d_all_of.g T.d_all_of.F.kp T.d_all_of.b .nil pass0 (pa_cons (pe_methK (pv 3) (poly_held_boxes T) (hr.mono (by decide))) (pa_cons pe_str pa_nil))))
      (pss_cons (ps_if (pt_not (pt_val (pe_call (ok_is_part T) (hr.mono (by decide)) (by rfl) T.d_is_part.g T.d_is_part.F.kp T.d_is_part.b .nil pass0 (pa_cons (pe_fldK (K := K) rfl (pe_fldK (K := K) rfl (pv 3) rfl) rfl) pa_nil))))
      (pss_one (ps_expr (pe_bm PySem.F.plainAttrs_list PySem.F.slot_list_append PySem.F.type_list_append mt_appendA (pv 4) (pa_cons (pe_tupA (pa_cons (pv 2) (pa_cons pe_str pa_nil))) pa_nil))))
      pss_nil)
      (pss_one (ps_ret (pv 4))))))), ?_⟩
    have va := val_at (f := fun e => V.ref e.1) nd me
    have vh := val_at (f := fun e => e.2.2) nd me
    obtain ⟨bd, y, dy, fs, hbx, ln, ls, hy, lh, hn, ok⟩ := hb.ob
    obtain ⟨w0, w1, w2, w3, w4, w5, w6, w7, w8, w9, eb⟩ := ten ok.1
    have hyw := hy
    rw [eb] at hyw
    have hz0 : SzV H w0 zw := by rw [eb] at hzw; exact hzw
    have hz1 : SzV H w1 zh := by rw [eb] at hzh; exact hzh
    tm_at "rds"
    refine ⟨_, _, _, _, _, rfl, hx, T.c_Nest.cls, T.n_Nest_box_by, rfl, ?_⟩
    tm_at "rds"
    refine ⟨d1, _, rfl, .inl ⟨bxs (t.pre .non), keyS b.nm, .inl h1, rfl, va.symm⟩, ?_⟩
    dsimp only [gName]
    tm_at "rds"
    have k : NewIts H (leastI b zw) Q := k
    have e2 : b.st.getD 2 .non = w2 := by rw [eb]; rfl
    unfold leastI at k
    rw [e2] at k
    refine ⟨_, _, _, _, _, rfl, hbx, (kdT T).cl _, (kdT T).sy _, ls, ?_⟩
    tm_at "rds"
    refine ⟨_, _, _, _, _, rfl, hyw, T.c_Style.cls, T.n_Style_least_wide, rfl, ?_⟩
    refine ⟨rfl, _, rfl, ?_⟩
    by_cases e : w2 = .non
    rotate_left
    · rw [if_pos e] at k
      refine iteT' (by rw [decide_eq_false e]; rfl) ?_
      tm_at "rds"
      intro p1 H1 f1 s1 g1
      exact k p1 _ H1 s1 f1 g1 .nil
    rw [if_neg (fun z => z e)] at k
    refine iteF' (by rw [decide_eq_true e]; rfl) ?_
    tm_at "rds"
    refine ⟨b.x, b.own.kd, bd, fs, rfl, hbx, lh, b, rfl, hb, rfl, fun q1 H10 s10 g10 => ?_⟩
    tm_at "rds"
    refine ⟨q1, b.kids, "least", rfl, .inr (sqT g10), (hb.ks (Same.ks s10)).kid, hb.few, fun p1 u1 H1 s1 f1 g1 i1 => ?_⟩
    have s01 := s10.trans s1
    have l1 : u1.length ≤ 1000 := by rw [i1.1, allI_len]; exact hb.few
    have f01 : H p1 = none := s10.free f1
    dsimp only [gName]
    tm_at "rds"
    refine ⟨_, _, _, _, _, rfl, s01 _ _ hbx, (kdT T).cl _, (kdT T).sy _, ls, ?_⟩
    tm_at "rds"
    refine ⟨_, _, _, _, _, rfl, s01 _ _ hyw, T.c_Style.cls, T.n_Style_wide, rfl, ?_⟩
    dsimp only [tNil, List.cons_append, List.nil_append]
    refine isPartP (hz0.pt.same s01) ?_
    tm_at "rds"
    cases ep : zw.isPart with
    | true =>
      rw [ep, if_pos rfl, List.append_nil] at k
      refine iteF' (by rfl) ?_
      tm_at "rds"
      exact k p1 _ H1 s01 f01 g1 i1
    | false =>
      rw [ep, if_neg (by decide)] at k
      refine iteT' (by rfl) ?_
      tm_at "rzs"
      intro p2 H2 f2 s2 g2
      refine ⟨_, _, _, rfl, rfl, s2 _ _ g1, by rw [sizeLine_eq]; omega, fun H3 b3 g3 => ?_⟩
      tm_at "rds"
      have k3 : KeepS H2 H3 := KeepS.refl.butL b3 (s2 _ _ g1)
      exact k p1 _ H3 (Same.mut' (s01.trans s2) b3 f01) f01 g3 ((i1.ks ((Same.ks s2).trans k3)).app (.cons ((ItAt.of g2).ks k3) .nil))
end
end My
namespace My
open PySem PySem.Spec PyProof.Rows L2
section
variable {P : Program} {w : World} {K : PySem.W.Frag} {mg : Str → Option Value} {base : Heap}
theorem ok_wide_needs (T : Tx w K mg) : FnOk P w K mg base CX0 9 T.d_wide_needs.f T.d_wide_needs.fd ["nest", "frame", "name"] (sp_need "wide" (bcT T) T.c_Style.C T.c_Nest.C K) := by
  refine T.d_wide_needs.F.ok sc_wide_needs (fun vs H Q E h => ?_) (fun cdv A outer s H vs Q E hr h => ?_)
  · obtain ⟨x, fp, t, b, hv, ho, zw, zh, fw, fh, rfl, _⟩ := h
    rfl
  · obtain ⟨x, fp, t, b, hv, ho, zw, zh, fw, fh, rfl, hN, nd, me, hb, hho, hzw, hzh, hfp, hro, k⟩ := h
    have hN0 := hN
    obtain ⟨dx, o, d1, d2, hx, hoo, h1, h2⟩ := hN
    refine ⟨_, (pss_cons (ps_set (i := 3) sc_wide_needs.nd rfl (Or.inl rfl) (pe_dget (hu_of hr) (pe_fldK (K := K) rfl (pv 0) rfl) (pv 2) (fun _ _ => rfl)))
      (pss_cons (ps_set (i := 4) sc_wide_needs.nd rfl (Or.inl rfl) (pe_call (ok_holder_box T) (hr.mono (by decide)) (by rfl) T.d_holder_box.g T.d_holder_box.F.kp T.d_holder_box.b .nil pass0 (pa_cons (pv 0) (pa_cons (pv 2) pa_nil))))
      (pss_cons (ps_if (pt_cmpR op_isN (pv 4) pe_non (nomark _))
      (pss_one (ps_ret (pe_lstA pa_nil)))
      pss_nil)
      (pss_cons (ps_set (i := 5) sc_wide_needs.nd rfl (Or.inl rfl) (pe_lstA (pa_cons (pe_tupA (pa_cons (pe_fldK (K := K) rfl (pv 4) rfl) (pa_cons pe_str pa_nil))) pa_nil)))
      (pss_cons (ps_if (pt_val (pe_callB (call_isiK (K := K) rfl) (by rfl) T.b_isinstance (by decide +kernel) (pa_cons (pv 4) (pa_cons (pe_glob (v := .ref T.c_Row.C) (by rfl) T.c_Row.g rfl) pa_nil))))
      (pss_one (ps_ret (pe_op (op_catK (K := K) rfl) (pe_op (op_catK (K := K) rfl) (pv 5) (pe_call (ok_all_of T) (hr.mono (by decide)) (by rfl) T.d_all_of.g T.d_all_of.F.kp T.d_all_of.b .nil pass0 (pa_cons (pe_fldK (K := K) rfl (pv 4) rfl) (pa_cons pe_str pa_nil)))) (pe_call (ok_all_of T) (hr.mono (by decide)) (by rfl) T.d_all_of.g T.d_all_of.F.kp T.d_all_of.b .nil pass0 (pa_cons (pe_fldK (K := K) rfl (pv 4) rfl) (pa_cons pe_str pa_nil))))))
      pss_nil)
      (pss_cons (ps_if (pt_cmpR op_notN (pe_fldK (K := K) rfl (pe_fldK (K := K) rfl (pv 3) rfl) rfl) pe_non (nomark _))
      (pss_one (ps_ret (pe_lstA (pa_cons (pe_tupA (pa_cons (pv 2) (pa_cons pe_str pa_nil))) pa_nil))))
      pss_nil)
      (pss_cons (ps_if (pt_val (pe_callB (call_isiK (K := K) rfl) (by rfl) T.b_isinstance (by decide +kernel) (pa_cons (pv 4) (pa_cons (pe_glob (v := .ref T.c_Grid.C) (by rfl) T.c_Grid.g rfl) pa_nil))))
      (pss_one (ps_ret (pe_op (op_catK (K := K) rfl) (pe_op (op_catK (K := K) rfl) (pv 5) (pe_call (ok_all_of T) (hr.mono (by decide)) (by rfl) T.d_all_of.g T.d_all_of.F.kp T.d_all_of.b .nil pass0 (pa_cons (pe_fldK (K := K) rfl (pv 4) rfl) (pa_cons pe_str pa_nil)))) (pe_call (ok_all_of T) (hr.mono (by decide)) (by rfl) T.d_all_of.g T.d_all_of.F.kp T.d_all_of.b .nil pass0 (pa_cons (pe_fldK (K := K) rfl (pv 4) rfl) (pa_cons pe_str pa_nil))))))
      pss_nil)
      (pss_cons (ps_if (pt_cmpR op_eq (pe_call (ok_stand_of T) (hr.mono (by decide)) (by rfl) T.d_stand_of.g T.d_stand_of.F.kp T.d_stand_of.b .nil pass0 (pa_cons (pv 3) (pa_cons (pv 4) pa_nil))) pe_str (nomark _))
      (pss_one (ps_ret (pv 5)))
      pss_nil)
      (pss_one (ps_ret (pe_op (op_catK (K := K) rfl) (pv 5) (pe_lstA (pa_cons (pe_tupA (pa_cons (pv 2) (pa_cons pe_str pa_nil))) (pa_cons (pe_tupA (pa_cons (pv 2) (pa_cons pe_str pa_nil))) pa_nil)))))))))))))), ?_⟩
    have va := val_at (f := fun e => V.ref e.1) nd me
    have vh := val_at (f := fun e => e.2.2) nd me
    obtain ⟨bd, y, dy, fs, hbx, ln, ls, hy, lh, hn, ok⟩ := hb.ob
    obtain ⟨w0, w1, w2, w3, w4, w5, w6, w7, w8, w9, eb⟩ := ten ok.1
    have hyw := hy
    rw [eb] at hyw
    have hz0 : SzV H w0 zw := by rw [eb] at hzw; exact hzw
    have hz1 : SzV H w1 zh := by rw [eb] at hzh; exact hzh
    tm_at "rds"
    refine ⟨_, _, _, _, _, rfl, hx, T.c_Nest.cls, T.n_Nest_box_by, rfl, ?_⟩
    tm_at "rds"
    refine ⟨d1, _, rfl, .inl ⟨bxs (t.pre .non), keyS b.nm, .inl h1, rfl, va.symm⟩, ?_⟩
    dsimp only [gName]
    tm_at "rds"
    have k : NewIts H (wideI b zw ho) Q := k
    refine ⟨x, t, b, hv, ho, rfl, hN0, nd, me, hho, ?_⟩
    dsimp only [gName]
    rcases hho with ⟨rfl, rfl⟩ | ⟨a, hw, rfl, ma, ba, rfl, mk⟩
    · tm_at "rds"
      intro p1 H1 f1 s1 g1
      exact k p1 _ H1 s1 f1 g1 .nil
    obtain ⟨adx, ay, ady, afs, hax, aln, als, _⟩ := ba.ob
    have ak1 : a.own.kd ≠ .words := fun z => by rw [ba.leaf (.inl z)] at mk; cases mk
    have ak2 : a.own.kd ≠ .picture := fun z => by rw [ba.leaf (.inr z)] at mk; cases mk
    tm_at "rds"
    tm_at "rds"
    dsimp only
    refine ⟨_, _, _, _, _, rfl, hax, (kdT T).cl _, (kdT T).nm _, aln, ?_⟩
    tm_at "rds"
    intro p1 H1 f1 s1 g1
    tm_at "rds"
    intro p3 H3 f3 s3 g3
    have s03 := s1.trans s3
    have f03 : H p3 = none := s1.free f3
    have i3 : ItmsAt H3 [.ref p1] [(a.nm, "wide")] := .cons (.of (s3 _ _ g1)) .nil
    have ba3 := ba.ks (Same.ks s03)
    obtain ⟨bdx, aq, bfs, hbx2, lbx, haq⟩ := ba.boxesA ak1 ak2
    dsimp only [gName]
    tm_at "rds"
    refine ⟨_, _, _, _, decide (a.own.kd = .row), rfl, .own _, ba3.tyx (kdT T), (kdT T).is_ a.own.kd .row, ?_⟩
    refine ⟨_, rfl, ?_⟩
    by_cases e1 : a.own.kd = .row
    · refine iteT' (decide_eq_true e1) ?_
      rw [e1] at hbx2
      tm_at "rds"
      refine ⟨_, _, _, _, _, rfl, s03 _ _ hbx2, T.c_Row.cls, T.n_Row_boxes, lbx, ?_⟩
      tm_at "rds"
      refine ⟨aq, a.kids, "least", rfl, .inr (sqT (s03 _ _ haq)), ba3.kid, ba.few, fun p4 us4 H4 s4 f4 g4 i4 => ?_⟩
      have l4 : us4.length ≤ 1000 := by rw [i4.1, allI_len]; exact ba.few
      refine ⟨p3, p4, _, us4, rfl, rfl, s4 _ _ g3, g4, by rw [sizeLine_eq]; show 1 + _ ≤ _; omega, fun p5 H5 f5 s5 g5 => ?_⟩
      have s05 := s03.trans (s4.trans s5)
      tm_at "rds"
      refine ⟨_, _, _, _, _, rfl, s05 _ _ hbx2, T.c_Row.cls, T.n_Row_boxes, lbx, ?_⟩
      tm_at "rds"
      refine ⟨aq, a.kids, "wish", rfl, .inr (sqT (s05 _ _ haq)), (ba.ks (Same.ks s05)).kid, ba.few, fun p6 us6 H6 s6 f6 g6 i6 => ?_⟩
      have l6 : us6.length ≤ 1000 := by rw [i6.1, allI_len]; exact ba.few
      refine ⟨p5, p6, _, us6, rfl, rfl, s6 _ _ g5, g6, by rw [sizeLine_eq, List.length_append]; show 1 + _ + _ ≤ _; omega, fun p7 H7 f7 s7 g7 => ?_⟩
      have s67 := s6.trans s7
      refine k p7 _ H7 (s05.trans s67) ((s05.trans s6).free f7) g7 ?_
      have e : wideI b zw (some a) = ([(a.nm, "wide")] ++ allI a.kids "least") ++ allI a.kids "wish" := by
        unfold wideI
        dsimp only
        rw [if_pos e1]
        rfl
      rw [e]
      exact ((i3.ks (Same.ks ((s4.trans s5).trans s67))).app (i4.ks (Same.ks (s5.trans s67)))).app (i6.ks (Same.ks s7))
    refine iteF' (decide_eq_false e1) ?_
    tm_at "rds"
    refine ⟨_, _, _, _, _, rfl, s03 _ _ hbx, (kdT T).cl _, (kdT T).sy _, ls, ?_⟩
    tm_at "rds"
    refine ⟨_, _, _, _, _, rfl, s03 _ _ hyw, T.c_Style.cls, T.n_Style_wide, rfl, ?_⟩
    refine ⟨rfl, _, rfl, ?_⟩
    cases ez : zw.isNon with
    | false =>
      refine iteT' (by rw [hz0.nn, ez]; rfl) ?_
      tm_at "rds"
      intro p4 H4 f4 s4 g4
      tm_at "rds"
      intro p5 H5 f5 s5 g5
      refine k p5 _ H5 (s03.trans (s4.trans s5)) ((s03.trans s4).free f5) g5 ?_
      unfold wideI
      dsimp only
      rw [if_neg e1, if_pos ez]
      exact .cons (.of (s5 _ _ g4)) .nil
    | true =>
    refine iteF' (by rw [hz0.nn, ez]; rfl) ?_
    have ezn : ¬ zw.isNon = false := by rw [ez]; decide
    tm_at "rds"
    refine ⟨_, _, _, _, decide (a.own.kd = .grid), rfl, .own _, ba3.tyx (kdT T), (kdT T).is_ a.own.kd .grid, ?_⟩
    refine ⟨_, rfl, ?_⟩
    by_cases e2 : a.own.kd = .grid
    · refine iteT' (decide_eq_true e2) ?_
      rw [e2] at hbx2
      tm_at "rds"
      refine ⟨_, _, _, _, _, rfl, s03 _ _ hbx2, T.c_Grid.cls, T.n_Grid_boxes, lbx, ?_⟩
      tm_at "rds"
      refine ⟨aq, a.kids, "least", rfl, .inr (sqT (s03 _ _ haq)), ba3.kid, ba.few, fun p4 us4 H4 s4 f4 g4 i4 => ?_⟩
      have l4 : us4.length ≤ 1000 := by rw [i4.1, allI_len]; exact ba.few
      refine ⟨p3, p4, _, us4, rfl, rfl, s4 _ _ g3, g4, by rw [sizeLine_eq]; show 1 + _ ≤ _; omega, fun p5 H5 f5 s5 g5 => ?_⟩
      have s05 := s03.trans (s4.trans s5)
      tm_at "rds"
      refine ⟨_, _, _, _, _, rfl, s05 _ _ hbx2, T.c_Grid.cls, T.n_Grid_boxes, lbx, ?_⟩
      tm_at "rds"
      refine ⟨aq, a.kids, "wish", rfl, .inr (sqT (s05 _ _ haq)), (ba.ks (Same.ks s05)).kid, ba.few, fun p6 us6 H6 s6 f6 g6 i6 => ?_⟩
      have l6 : us6.length ≤ 1000 := by rw [i6.1, allI_len]; exact ba.few
      refine ⟨p5, p6, _, us6, rfl, rfl, s6 _ _ g5, g6, by rw [sizeLine_eq, List.length_append]; show 1 + _ + _ ≤ _; omega, fun p7 H7 f7 s7 g7 => ?_⟩
      have s67 := s6.trans s7
      refine k p7 _ H7 (s05.trans s67) ((s05.trans s6).free f7) g7 ?_
      have e : wideI b zw (some a) = ([(a.nm, "wide")] ++ allI a.kids "least") ++ allI a.kids "wish" := by
        unfold wideI
        dsimp only
        rw [if_neg e1, if_neg ezn, if_pos e2]
        rfl
      rw [e]
      exact ((i3.ks (Same.ks ((s4.trans s5).trans s67))).app (i4.ks (Same.ks (s5.trans s67)))).app (i6.ks (Same.ks s7))
    refine iteF' (decide_eq_false e2) ?_
    tm_at "rds"
    refine ⟨hb.ks (Same.ks s03), ba3, ak1, ak2, ?_⟩
    tm_at "rds"
    obtain ⟨s', es⟩ := standV_str (a := a) ok
    refine ⟨by rw [es]; rfl, ?_⟩
    refine ⟨_, rfl, ?_⟩
    refine ite2 (fun (e : isSt "stretch" b a = true) => ?_) (fun (e : ¬ isSt "stretch" b a = true) => ?_)
    · tm_at "rds"
      refine k p3 _ H3 s03 f03 g3 ?_
      unfold wideI
      dsimp only
      rw [if_neg e1, if_neg ezn, if_neg e2, if_pos e]
      exact i3
    · tm_at "rds"
      intro p4 H4 f4 s4 g4
      tm_at "rds"
      intro p5 H5 f5 s5 g5
      tm_at "rds"
      intro p6 H6 f6 s6 g6
      have s46 := (s4.trans s5).trans s6
      refine ⟨p3, p6, _, _, rfl, rfl, s46 _ _ g3, g6, by rw [sizeLine_eq]; show 1 + 2 ≤ _; decide, fun p7 H7 f7 s7 g7 => ?_⟩
      refine k p7 _ H7 (s03.trans (s46.trans s7)) ((s03.trans s46).free f7) g7 ?_
      have e4 : wideI b zw (some a) = [(a.nm, "wide")] ++ [(b.nm, "least"), (b.nm, "wish")] := by
        unfold wideI
        dsimp only
        rw [if_neg e1, if_neg ezn, if_neg e2, if_neg e]
        rfl
      rw [e4]
      exact (i3.ks (Same.ks (s46.trans s7))).app (.cons (.of (((s5.trans s6).trans s7) _ _ g4)) (.cons (.of ((s6.trans s7) _ _ g5)) .nil))
end
end My
namespace My
open PySem PySem.Spec PyProof.Rows L2
section
variable {P : Program} {w : World} {K : PySem.W.Frag} {mg : Str → Option Value} {base : Heap}
theorem ok_left_needs (T : Tx w K mg) : FnOk P w K mg base CX0 9 T.d_left_needs.f T.d_left_needs.fd ["nest", "frame", "name"] (sp_need "left" (bcT T) T.c_Style.C T.c_Nest.C K) := by
  refine T.d_left_needs.F.ok sc_left_needs (fun vs H Q E h => ?_) (fun cdv A outer s H vs Q E hr h => ?_)
  · obtain ⟨x, fp, t, b, hv, ho, zw, zh, fw, fh, rfl, _⟩ := h
    rfl
  · obtain ⟨x, fp, t, b, hv, ho, zw, zh, fw, fh, rfl, hN, nd, me, hb, hho, hzw, hzh, hfp, hro, k⟩ := h
    have hN0 := hN
    obtain ⟨dx, o, d1, d2, hx, hoo, h1, h2⟩ := hN
    refine ⟨_, (pss_cons (ps_set (i := 3) sc_left_needs.nd rfl (Or.inl rfl) (pe_call (ok_holder_box T) (hr.mono (by decide)) (by rfl) T.d_holder_box.g T.d_holder_box.F.kp T.d_holder_box.b .nil pass0 (pa_cons (pv 0) (pa_cons (pv 2) pa_nil))))
      (pss_cons (ps_if (pt_cmpR op_isN (pv 3) pe_non (nomark _))
      (pss_one (ps_ret (pe_lstA pa_nil)))
      pss_nil)
      (pss_cons (ps_set (i := 4) sc_left_needs.nd rfl (Or.inl rfl) (pe_lstA (pa_cons (pe_tupA (pa_cons (pe_fldK (K := K) rfl (pv 3) rfl) (pa_cons pe_str pa_nil))) (pa_cons (pe_tupA (pa_cons (pe_fldK (K := K) rfl (pv 3) rfl) (pa_cons pe_str pa_nil))) pa_nil))))
      (pss_cons (ps_if (pt_val (pe_callB (call_isiK (K := K) rfl) (by rfl) T.b_isinstance (by decide +kernel) (pa_cons (pv 3) (pa_cons (pe_glob (v := .ref T.c_Pile.C) (by rfl) T.c_Pile.g rfl) pa_nil))))
      (pss_one (ps_ret (pe_op (op_catK (K := K) rfl) (pv 4) (pe_lstA (pa_cons (pe_tupA (pa_cons (pv 2) (pa_cons pe_str pa_nil))) pa_nil)))))
      pss_nil)
      (pss_cons (ps_if (pt_val (pe_callB (call_isiK (K := K) rfl) (by rfl) T.b_isinstance (by decide +kernel) (pa_cons (pv 3) (pa_cons (pe_glob (v := .ref T.c_Grid.C) (by rfl) T.c_Grid.g rfl) pa_nil))))
      (pss_one (ps_ret (pe_op (op_catK (K := K) rfl) (pe_op (op_catK (K := K) rfl) (pe_op (op_catK (K := K) rfl) (pv 4) (pe_call (ok_all_of T) (hr.mono (by decide)) (by rfl) T.d_all_of.g T.d_all_of.F.kp T.d_all_of.b .nil pass0 (pa_cons (pe_fldK (K := K) rfl (pv 3) rfl) (pa_cons pe_str pa_nil)))) (pe_call (ok_all_of T) (hr.mono (by decide)) (by rfl) T.d_all_of.g T.d_all_of.F.kp T.d_all_of.b .nil pass0 (pa_cons (pe_fldK (K := K) rfl (pv 3) rfl) (pa_cons pe_str pa_nil)))) (pe_lstA (pa_cons (pe_tupA (pa_cons (pv 2) (pa_cons pe_str pa_nil))) pa_nil)))))
      pss_nil)
      (pss_cons (ps_if (pt_val (pe_fldK (K := K) rfl (pv 3) rfl))
      (pss_one (ps_aug (i := 4) sc_left_needs.nd rfl (Or.inl rfl) (pe_call (ok_all_of T) (hr.mono (by decide)) (by rfl) T.d_all_of.g T.d_all_of.F.kp T.d_all_of.b .nil pass0 (pa_cons (pe_fldK (K := K) rfl (pv 3) rfl) (pa_cons pe_str pa_nil))) ip_extA))
      pss_nil)
      (pss_one (ps_ret (pe_op (op_catK (K := K) rfl) (pv 4) (pe_call (ok_all_of T) (hr.mono (by decide)) (by rfl) T.d_all_of.g T.d_all_of.F.kp T.d_all_of.b .nil pass0 (pa_cons (pe_fldK (K := K) rfl (pv 3) rfl) (pa_cons pe_str pa_nil)))))))))))), ?_⟩
    have va := val_at (f := fun e => V.ref e.1) nd me
    have vh := val_at (f := fun e => e.2.2) nd me
    obtain ⟨bd, y, dy, fs, hbx, ln, ls, hy, lh, hn, ok⟩ := hb.ob
    obtain ⟨w0, w1, w2, w3, w4, w5, w6, w7, w8, w9, eb⟩ := ten ok.1
    have hyw := hy
    rw [eb] at hyw
    have hz0 : SzV H w0 zw := by rw [eb] at hzw; exact hzw
    have hz1 : SzV H w1 zh := by rw [eb] at hzh; exact hzh
    tm_at "rds"
    have k : NewIts H (leftI b ho) Q := k
    refine ⟨x, t, b, hv, ho, rfl, hN0, nd, me, hho, ?_⟩
    dsimp only [gName]
    rcases hho with ⟨rfl, rfl⟩ | ⟨a, hw, rfl, ma, ba, rfl, mk⟩
    · tm_at "rds"
      intro p1 H1 f1 s1 g1
      exact k p1 _ H1 s1 f1 g1 .nil
    obtain ⟨adx, ay, ady, afs, hax, aln, als, _⟩ := ba.ob
    have ak1 : a.own.kd ≠ .words := fun z => by rw [ba.leaf (.inl z)] at mk; cases mk
    have ak2 : a.own.kd ≠ .picture := fun z => by rw [ba.leaf (.inr z)] at mk; cases mk
    tm_at "rds"
    tm_at "rds"
    dsimp only
    refine ⟨_, _, _, _, _, rfl, hax, (kdT T).cl _, (kdT T).nm _, aln, ?_⟩
    tm_at "rds"
    intro p1 H1 f1 s1 g1
    tm_at "rds"
    refine ⟨_, _, _, _, _, rfl, s1 _ _ hax, (kdT T).cl _, (kdT T).nm _, aln, ?_⟩
    tm_at "rds"
    intro p2 H2 f2 s2 g2
    tm_at "rds"
    intro p3 H3 f3 s3 g3
    have s03 := (s1.trans s2).trans s3
    have f03 : H p3 = none := (s1.trans s2).free f3
    have i3 : ItmsAt H3 [.ref p1, .ref p2] [(a.nm, "left"), (a.nm, "wide")] := .cons (.of ((s2.trans s3) _ _ g1)) (.cons (.of (s3 _ _ g2)) .nil)
    have ba3 := ba.ks (Same.ks s03)
    dsimp only [gName]
    tm_at "rds"
    refine ⟨_, _, _, _, decide (a.own.kd = .pile), rfl, .own _, ba3.tyx (kdT T), (kdT T).is_ a.own.kd .pile, ?_⟩
    refine ⟨_, rfl, ?_⟩
    by_cases e1 : a.own.kd = .pile
    · refine iteT' (decide_eq_true e1) ?_
      tm_at "rds"
      intro p4 H4 f4 s4 g4
      tm_at "rds"
      intro p5 H5 f5 s5 g5
      refine ⟨p3, p5, _, _, rfl, rfl, (s4.trans s5) _ _ g3, g5, by rw [sizeLine_eq]; show 2 + 1 ≤ _; decide, fun p6 H6 f6 s6 g6 => ?_⟩
      refine k p6 _ H6 (s03.trans ((s4.trans s5).trans s6)) ((s03.trans (s4.trans s5)).free f6) g6 ?_
      unfold leftI
      dsimp only
      rw [if_pos e1]
      exact (i3.ks (Same.ks ((s4.trans s5).trans s6))).app (.cons (.of ((s5.trans s6) _ _ g4)) .nil)
    refine iteF' (decide_eq_false e1) ?_
    tm_at "rds"
    refine ⟨_, _, _, _, decide (a.own.kd = .grid), rfl, .own _, ba3.tyx (kdT T), (kdT T).is_ a.own.kd .grid, ?_⟩
    refine ⟨_, rfl, ?_⟩
    obtain ⟨bdx, aq, bfs, hbx2, lbx, haq⟩ := ba.boxesA ak1 ak2
    by_cases e2 : a.own.kd = .grid
    · refine iteT' (decide_eq_true e2) ?_
      rw [e2] at hbx2
      tm_at "rds"
      refine ⟨_, _, _, _, _, rfl, s03 _ _ hbx2, T.c_Grid.cls, T.n_Grid_boxes, lbx, ?_⟩
      tm_at "rds"
      refine ⟨aq, a.kids, "least", rfl, .inr (sqT (s03 _ _ haq)), ba3.kid, ba.few, fun p4 us4 H4 s4 f4 g4 i4 => ?_⟩
      have l4 : us4.length ≤ 1000 := by rw [i4.1, allI_len]; exact ba.few
      refine ⟨p3, p4, _, us4, rfl, rfl, s4 _ _ g3, g4, by rw [sizeLine_eq]; show 2 + _ ≤ _; omega, fun p5 H5 f5 s5 g5 => ?_⟩
      have s05 := s03.trans (s4.trans s5)
      tm_at "rds"
      refine ⟨_, _, _, _, _, rfl, s05 _ _ hbx2, T.c_Grid.cls, T.n_Grid_boxes, lbx, ?_⟩
      tm_at "rds"
      refine ⟨aq, a.kids, "wish", rfl, .inr (sqT (s05 _ _ haq)), (ba.ks (Same.ks s05)).kid, ba.few, fun p6 us6 H6 s6 f6 g6 i6 => ?_⟩
      have l6 : us6.length ≤ 1000 := by rw [i6.1, allI_len]; exact ba.few
      refine ⟨p5, p6, _, us6, rfl, rfl, s6 _ _ g5, g6, by rw [sizeLine_eq, List.length_append]; show 2 + _ + _ ≤ _; omega, fun p7 H7 f7 s7 g7 => ?_⟩
      tm_at "rds"
      intro p8 H8 f8 s8 g8
      tm_at "rds"
      intro p9 H9 f9 s9 g9
      have s79 := s8.trans s9
      refine ⟨p7, p9, _, _, rfl, rfl, s79 _ _ g7, g9, by rw [sizeLine_eq, List.length_append, List.length_append]; show 2 + _ + _ + 1 ≤ _; omega, fun pa Ha fa sa ga => ?_⟩
      have s07 := s05.trans (s6.trans s7)
      have t7 := s79.trans sa
      refine k pa _ Ha (s07.trans t7) ((s07.trans s79).free fa) ga ?_
      have e : leftI b (some a) = ([(a.nm, "left"), (a.nm, "wide")] ++ allI a.kids "least" ++ allI a.kids "wish") ++ [(b.nm, "wide")] := by
        unfold leftI
        dsimp only
        rw [if_neg e1, if_pos e2]
        simp only [List.append_assoc]
      rw [e]
      have t5 := (s6.trans s7).trans t7
      exact (((i3.ks (Same.ks ((s4.trans s5).trans t5))).app (i4.ks (Same.ks (s5.trans t5)))).app (i6.ks (Same.ks (s7.trans t7)))).app (.cons (.of ((s9.trans sa) _ _ g8)) .nil)
    refine iteF' (decide_eq_false e2) ?_
    have e3 : a.own.kd = .row := by
      cases z : a.own.kd with
      | row => rfl
      | words => exact absurd z ak1
      | picture => exact absurd z ak2
      | pile => exact absurd z e1
      | grid => exact absurd z e2
    obtain ⟨tdx, tfs, htx, ltn, lnm⟩ := ba.turnA e3
    rw [e3] at hbx2
    tm_at "rds"
    refine ⟨_, _, _, _, _, rfl, s03 _ _ htx, T.c_Row.cls, T.n_Row_turn, ltn, ?_⟩
    refine ⟨_, rfl, ?_⟩
    have el : leftI b (some a) = [(a.nm, "left"), (a.nm, "wide")] ++ ((if a.own.turn = true then allI a.kids "wish" else []) ++ allI a.kids "wide") := by
      unfold leftI
      dsimp only
      rw [if_neg e1, if_neg e2]
    cases et : a.own.turn with
    | false =>
      refine iteF' (by rfl) ?_
      tm_at "rds"
      refine ⟨_, _, _, _, _, rfl, s03 _ _ hbx2, T.c_Row.cls, T.n_Row_boxes, lbx, ?_⟩
      tm_at "rds"
      refine ⟨aq, a.kids, "wide", rfl, .inr (sqT (s03 _ _ haq)), ba3.kid, ba.few, fun p4 us4 H4 s4 f4 g4 i4 => ?_⟩
      have l4 : us4.length ≤ 1000 := by rw [i4.1, allI_len]; exact ba.few
      refine ⟨p3, p4, _, us4, rfl, rfl, s4 _ _ g3, g4, by rw [sizeLine_eq]; show 2 + _ ≤ _; omega, fun p5 H5 f5 s5 g5 => ?_⟩
      refine k p5 _ H5 (s03.trans (s4.trans s5)) ((s03.trans s4).free f5) g5 ?_
      rw [el, et, if_neg (by decide), List.nil_append]
      exact (i3.ks (Same.ks (s4.trans s5))).app (i4.ks (Same.ks s5))
    | true =>
      refine iteT' (by rfl) ?_
      tm_at "rds"
      refine ⟨_, _, _, _, _, rfl, s03 _ _ hbx2, T.c_Row.cls, T.n_Row_boxes, lbx, ?_⟩
      tm_at "rds"
      refine ⟨aq, a.kids, "wish", rfl, .inr (sqT (s03 _ _ haq)), ba3.kid, ba.few, fun p4 us4 H4 s4 f4 g4 i4 => ?_⟩
      have l4 : us4.length ≤ 1000 := by rw [i4.1, allI_len]; exact ba.few
      refine ⟨p3, p4, _, _, rfl, rfl, s4 _ _ g3, g4, by rw [sizeLine_eq]; show 2 + _ ≤ _; omega, fun H5 b5 g5 => ?_⟩
      have s05 : Same H H5 := Same.mut' (s03.trans s4) b5 f03
      have k5 : KeepS H4 H5 := KeepS.refl.butL b5 (s4 _ _ g3)
      have ba5 := ba.ks (Same.ks s05)
      dsimp only [gName]
      tm_at "rds"
      refine ⟨_, _, _, _, _, rfl, s05 _ _ hbx2, T.c_Row.cls, T.n_Row_boxes, lbx, ?_⟩
      tm_at "rds"
      refine ⟨aq, a.kids, "wide", rfl, .inr (sqT (s05 _ _ haq)), ba5.kid, ba.few, fun p6 us6 H6 s6 f6 g6 i6 => ?_⟩
      have l6 : us6.length ≤ 1000 := by rw [i6.1, allI_len]; exact ba.few
      refine ⟨p3, p6, _, us6, rfl, rfl, s6 _ _ g5, g6, by rw [sizeLine_eq, List.length_append]; show 2 + _ + _ ≤ _; omega, fun p7 H7 f7 s7 g7 => ?_⟩
      refine k p7 _ H7 (s05.trans (s6.trans s7)) ((s05.trans s6).free f7) g7 ?_
      rw [el, et, if_pos rfl, ← List.append_assoc]
      have t5 : KeepS H5 H7 := Same.ks (s6.trans s7)
      exact (((i3.ks ((Same.ks s4).trans k5)).ks t5).app ((i4.ks k5).ks t5)).app (i6.ks (Same.ks s7))
end
end My
namespace My
open PySem PySem.Spec PyProof.Rows L2
section
variable {P : Program} {w : World} {K : PySem.W.Frag} {mg : Str → Option Value} {base : Heap}
def sp_based (bc : Kd → Addr) (S : Addr) (K : PySem.W.Frag) : Sp := fun vs H Q _ => ∃ (a : At), vs = [.ref a.x] ∧ BoxAt bc S K H a ∧ a.own.kd = .row ∧ ∀ p H', Same H H' → H p = none → H' p = some (.lst (refs (a.kids.filter fun k => isSt "base" k a))) → Q (.ref p) H'
theorem ok_based (T : Tx w K mg) : FnOk P w K mg base CX0 2 T.d_based.f T.d_based.fd ["row"] (sp_based (bcT T) T.c_Style.C K) := by
  refine T.d_based.F.ok sc_based (fun vs H Q E h => ?_) (fun cdv A outer s H vs Q E hr h => ?_)
  · obtain ⟨a, rfl, _⟩ := h
    rfl
  · obtain ⟨a, rfl, ha, hk, k⟩ := h
    refine ⟨_, (pss_one (ps_ret (pe_lc (own := [("one", 1)]) (g := gName 1) (by rfl) sc_based.nd (pi_tupK (K := K) rfl (pe_fldK (K := K) rfl (pv 0) rfl)) (blkOk_by (own := [("one", 1)]) (N := N_based) (sc := defScope s_based) (by decide +kernel)) (fun _ _ _ _ _ => (pg_name (i := 1) sc_based.nd rfl (Or.inl rfl))) (fun _ _ _ _ _ => (pts_one (pt_cmpR op_eq (pe_call (ok_stand_of T) (hr.mono (by decide)) (by rfl) T.d_stand_of.g T.d_stand_of.F.kp T.d_stand_of.b .nil pass0 (pa_cons (pv 1) (pa_cons (pv 0) pa_nil))) pe_str (nomark _)))) (fun _ _ _ _ _ => (pv 1))))), ?_⟩
    obtain ⟨adx, aq, afs, hax, lbx, haq⟩ := ha.inner (.inl hk)
    rw [hk] at hax
    tm_at "rds"
    refine ⟨_, _, _, _, _, rfl, hax, T.c_Row.cls, T.n_Row_boxes, lbx, ?_⟩
    refine ⟨aq, rfl, ⟨_, sqT haq⟩, fun D hD => lcTf (K := K) (fun k : At => V.ref k.x) (fun k : At => V.ref k.x) (fun k : At => isSt "base" k a) hD (sqT haq) (by have := ha.few; omega) (fun i y' H4 Kt Kf hy4 s4 kt kf => ?_) (fun H4 s4 g4 => ?_)⟩
    · have hbk := (ha.kid y' (List.mem_of_getElem? hy4)).ks (Same.ks s4)
      tm_at "rds"
      obtain ⟨_, _, _, _, _, _, _, _, _, _, oky⟩ := hbk.ob
      obtain ⟨s, es⟩ := standV_str (a := a) oky
      refine ⟨ha.ks (Same.ks s4), by rw [hk]; decide, by rw [hk]; decide, by rw [es]; rfl, ?_⟩
      refine ⟨_, rfl, ?_⟩
      by_cases e : standV y' a = sX "base"
      · refine iteT' (decide_eq_true e) ?_
        tm_at "rds"
        exact kt (decide_eq_true e) _ (Same.refl _)
      · refine iteF' (decide_eq_false e) ?_
        exact kf (decide_eq_false e) _ (Same.refl _)
    · exact k D H4 s4 hD g4
end
end My
namespace My
open PySem PySem.Spec PyProof.Rows L2
section
variable {P : Program} {w : World} {K : PySem.W.Frag} {mg : Str → Option Value} {base : Heap}
def sp_line_needs (bc : Kd → Addr) (S : Addr) (K : PySem.W.Frag) : Sp := fun vs H Q _ => ∃ (a : At), vs = [.ref a.x] ∧ BoxAt bc S K H a ∧ a.own.kd = .row ∧ NewIts H (lineI a) Q
theorem ok_line_needs (T : Tx w K mg) : FnOk P w K mg base CX0 3 T.d_line_needs.f T.d_line_needs.fd ["row"] (sp_line_needs (bcT T) T.c_Style.C K) := by
  refine T.d_line_needs.F.ok sc_line_needs (fun vs H Q E h => ?_) (fun cdv A outer s H vs Q E hr h => ?_)
  · obtain ⟨a, rfl, _⟩ := h
    rfl
  · obtain ⟨a, rfl, ha, hk, k⟩ := h
    refine ⟨_, (pss_cons (ps_set (i := 1) sc_line_needs.nd rfl (Or.inl rfl) (pe_op (op_catK (K := K) rfl) (pe_call (ok_all_of T) (hr.mono (by decide)) (by rfl) T.d_all_of.g T.d_all_of.F.kp T.d_all_of.b .nil pass0 (pa_cons (pe_fldK (K := K) rfl (pv 0) rfl) (pa_cons pe_str pa_nil))) (pe_call (ok_all_of T) (hr.mono (by decide)) (by rfl) T.d_all_of.g T.d_all_of.F.kp T.d_all_of.b .nil pass0 (pa_cons (pe_call (ok_based T) (hr.mono (by decide)) (by rfl) T.d_based.g T.d_based.F.kp T.d_based.b .nil pass0 (pa_cons (pv 0) pa_nil)) (pa_cons pe_str pa_nil)))))
      (pss_cons (ps_if (pt_val (pe_fldK (K := K) rfl (pv 0) rfl))
      (pss_one (ps_aug (i := 1) sc_line_needs.nd rfl (Or.inl rfl) (pe_op (op_catK (K := K) rfl) (pe_lstA (pa_cons (pe_tupA (pa_cons (pe_fldK (K := K) rfl (pv 0) rfl) (pa_cons pe_str pa_nil))) pa_nil)) (pe_call (ok_all_of T) (hr.mono (by decide)) (by rfl) T.d_all_of.g T.d_all_of.F.kp T.d_all_of.b .nil pass0 (pa_cons (pe_fldK (K := K) rfl (pv 0) rfl) (pa_cons pe_str pa_nil)))) ip_extA))
      pss_nil)
      (pss_one (ps_ret (pv 1))))), ?_⟩
    obtain ⟨adx, aq, afs, hax, lbx, haq⟩ := ha.inner (.inl hk)
    rw [hk] at hax
    tm_at "rds"
    refine ⟨_, _, _, _, _, rfl, hax, T.c_Row.cls, T.n_Row_boxes, lbx, ?_⟩
    tm_at "rds"
    refine ⟨aq, a.kids, "rise", rfl, .inr (sqT haq), ha.kid, ha.few, fun p1 us1 H1 s1 f1 g1 i1 => ?_⟩
    have ha1 := ha.ks (Same.ks s1)
    tm_at "rds"
    intro p2 H2 s2 f2 g2
    have ha2 := ha1.ks (Same.ks s2)
    tm_at "rds"
    have lf : (a.kids.filter fun k => isSt "base" k a).length ≤ 1000 := Nat.le_trans (List.length_filter_le _ _) ha.few
    refine ⟨p2, a.kids.filter fun k => isSt "base" k a, "base", rfl, .inl (sqL g2), fun k m => ha2.kid k ((List.mem_filter.mp m).1), lf, fun p3 us3 H3 s3 f3 g3 i3 => ?_⟩
    have l1 : us1.length ≤ 1000 := by rw [i1.1, allI_len]; exact ha.few
    have l3 : us3.length ≤ 1000 := by rw [i3.1, allI_len]; exact lf
    have s13 := s2.trans s3
    refine ⟨p1, p3, us1, us3, rfl, rfl, s13 _ _ g1, g3, by rw [sizeLine_eq]; omega, fun p4 H4 f4 s4 g4 => ?_⟩
    have s14 := s13.trans s4
    have s04 := s1.trans s14
    have ha4 := ha.ks (Same.ks s04)
    have f04 : H p4 = none := (s1.trans s13).free f4
    have i4 : ItmsAt H4 (us1 ++ us3) (allI a.kids "rise" ++ allI (a.kids.filter fun k => isSt "base" k a) "base") := (i1.ks (Same.ks s14)).app (i3.ks (Same.ks s4))
    obtain ⟨tdx, tfs, htx, ltn, lnm⟩ := ha.turnA hk
    dsimp only [gName]
    tm_at "rds"
    refine ⟨_, _, _, _, _, rfl, s04 _ _ htx, T.c_Row.cls, T.n_Row_turn, ltn, ?_⟩
    refine ⟨_, rfl, ?_⟩
    cases et : a.own.turn with
    | false =>
      refine iteF' (by rfl) ?_
      tm_at "rds"
      refine k p4 _ H4 s04 f04 g4 ?_
      unfold lineI
      rw [et, if_neg (by decide), List.append_nil]
      exact i4
    | true =>
      refine iteT' (by rfl) ?_
      tm_at "rds"
      refine ⟨_, _, _, _, _, rfl, s04 _ _ htx, T.c_Row.cls, T.n_Row_name, lnm, ?_⟩
      tm_at "rds"
      intro p5 H5 f5 s5 g5
      tm_at "rds"
      intro p6 H6 f6 s6 g6
      have s46 := s5.trans s6
      tm_at "rds"
      refine ⟨_, _, _, _, _, rfl, (s04.trans s46) _ _ hax, T.c_Row.cls, T.n_Row_boxes, lbx, ?_⟩
      tm_at "rds"
      have ha6 := ha4.ks (Same.ks s46)
      refine ⟨aq, a.kids, "wish", rfl, .inr (sqT ((s04.trans s46) _ _ haq)), ha6.kid, ha.few, fun p7 us7 H7 s7 f7 g7 i7 => ?_⟩
      have l7 : us7.length ≤ 1000 := by rw [i7.1, allI_len]; exact ha.few
      refine ⟨p6, p7, _, us7, rfl, rfl, s7 _ _ g6, g7, by rw [sizeLine_eq]; show 1 + _ ≤ _; omega, fun p8 H8 f8 s8 g8 => ?_⟩
      have s48 := (s46.trans s7).trans s8
      refine ⟨p4, p8, _, _, rfl, rfl, s48 _ _ g4, g8, by rw [sizeLine_eq, List.length_append, List.length_append]; show _ + (1 + _) ≤ _; omega, fun H9 b9 g9 => ?_⟩
      tm_at "rds"
      have s09 : Same H H9 := Same.mut' (s04.trans s48) b9 f04
      have k9 : KeepS H8 H9 := KeepS.refl.butL b9 (s48 _ _ g4)
      refine k p4 _ H9 s09 f04 g9 ?_
      unfold lineI
      rw [et, if_pos rfl]
      have it5 : ItAt H9 (.ref p5) (a.nm, "wide") := (ItAt.of (((s6.trans s7).trans s8) _ _ g5)).ks k9
      exact (i4.ks ((Same.ks s48).trans k9)).app (.cons it5 (i7.ks ((Same.ks s8).trans k9)))
end
end My
namespace My
open PySem PySem.Spec PyProof.Rows L2
section
variable {P : Program} {w : World} {K : PySem.W.Frag} {mg : Str → Option Value} {base : Heap}
theorem ok_flow_needs (T : Tx w K mg) : FnOk P w K mg base CX0 9 T.d_flow_needs.f T.d_flow_needs.fd ["nest", "frame", "name"] (sp_need "flow" (bcT T) T.c_Style.C T.c_Nest.C K) := by
  refine T.d_flow_needs.F.ok sc_flow_needs (fun vs H Q E h => ?_) (fun cdv A outer s H vs Q E hr h => ?_)
  · obtain ⟨x, fp, t, b, hv, ho, zw, zh, fw, fh, rfl, _⟩ := h
    rfl
  · obtain ⟨x, fp, t, b, hv, ho, zw, zh, fw, fh, rfl, hN, nd, me, hb, hho, hzw, hzh, hfp, hro, k⟩ := h
    have hN0 := hN
    obtain ⟨dx, o, d1, d2, hx, hoo, h1, h2⟩ := hN
    refine ⟨_, (pss_cons (ps_set (i := 3) sc_flow_needs.nd rfl (Or.inl rfl) (pe_dget (hu_of hr) (pe_fldK (K := K) rfl (pv 0) rfl) (pv 2) (fun _ _ => rfl)))
      (pss_cons (ps_if (pt_val (pe_callB (call_isiTK (K := K) rfl) (by rfl) T.b_isinstance (by decide +kernel) (pa_cons (pv 3) (pa_cons (pe_tupA (pa_cons (pe_glob (v := .ref T.c_Words.C) (by rfl) T.c_Words.g rfl) (pa_cons (pe_glob (v := .ref T.c_Picture.C) (by rfl) T.c_Picture.g rfl) pa_nil))) pa_nil))))
      (pss_one (ps_ret (pe_lstA (pa_cons (pe_tupA (pa_cons (pv 2) (pa_cons pe_str pa_nil))) pa_nil))))
      pss_nil)
      (pss_cons (ps_if (pt_val (pe_callB (call_isiK (K := K) rfl) (by rfl) T.b_isinstance (by decide +kernel) (pa_cons (pv 3) (pa_cons (pe_glob (v := .ref T.c_Row.C) (by rfl) T.c_Row.g rfl) pa_nil))))
      (pss_one (ps_ret (pe_call (ok_line_needs T) (hr.mono (by decide)) (by rfl) T.d_line_needs.g T.d_line_needs.F.kp T.d_line_needs.b .nil pass0 (pa_cons (pv 3) pa_nil))))
      pss_nil)
      (pss_one (ps_ret (pe_call (ok_all_of T) (hr.mono (by decide)) (by rfl) T.d_all_of.g T.d_all_of.F.kp T.d_all_of.b .nil pass0 (pa_cons (pe_fldK (K := K) rfl (pv 3) rfl) (pa_cons pe_str pa_nil)))))))), ?_⟩
    have va := val_at (f := fun e => V.ref e.1) nd me
    have vh := val_at (f := fun e => e.2.2) nd me
    obtain ⟨bd, y, dy, fs, hbx, ln, ls, hy, lh, hn, ok⟩ := hb.ob
    obtain ⟨w0, w1, w2, w3, w4, w5, w6, w7, w8, w9, eb⟩ := ten ok.1
    have hyw := hy
    rw [eb] at hyw
    have hz0 : SzV H w0 zw := by rw [eb] at hzw; exact hzw
    have hz1 : SzV H w1 zh := by rw [eb] at hzh; exact hzh
    tm_at "rds"
    refine ⟨_, _, _, _, _, rfl, hx, T.c_Nest.cls, T.n_Nest_box_by, rfl, ?_⟩
    tm_at "rds"
    refine ⟨d1, _, rfl, .inl ⟨bxs (t.pre .non), keyS b.nm, .inl h1, rfl, va.symm⟩, ?_⟩
    dsimp only [gName]
    tm_at "rds"
    have k : NewIts H (flowI b) Q := k
    tm_at "rds"
    intro p1 H1 f1 s1 g1
    have hb1 := hb.ks (Same.ks s1)
    refine ⟨_, p1, _, _, [.ref T.c_Words.C, .ref T.c_Picture.C], decide (b.own.kd = .words) || decide (b.own.kd = .picture), rfl, g1, .cons (.own _) (.cons (.own _) .nil), hb1.tyx (kdT T), kitAny_cons (b := decide (b.own.kd = .words)) ((kdT T).is_ b.own.kd .words) (fun e1 => kitAny_cons (b := decide (b.own.kd = .picture)) ((kdT T).is_ b.own.kd .picture) (fun e2 => by rw [e1, e2]; rfl) (fun e2 => by rw [e2, Bool.or_true])) (fun e1 => by rw [e1]; rfl), ?_⟩
    refine ⟨_, rfl, ?_⟩
    by_cases el : b.own.kd = .words ∨ b.own.kd = .picture
    · refine iteT' (by rcases el with e | e <;> rw [e] <;> rfl) ?_
      tm_at "rds"
      intro p2 H2 f2 s2 g2
      tm_at "rds"
      intro p3 H3 f3 s3 g3
      refine k p3 _ H3 ((s1.trans s2).trans s3) ((s1.trans s2).free f3) g3 ?_
      unfold flowI
      rw [if_pos el]
      exact .cons (.of (s3 _ _ g2)) .nil
    refine iteF' (by rw [decide_eq_false fun e => el (.inl e), decide_eq_false fun e => el (.inr e)]; rfl) ?_
    tm_at "rds"
    refine ⟨_, _, _, _, decide (b.own.kd = .row), rfl, .own _, hb1.tyx (kdT T), (kdT T).is_ b.own.kd .row, ?_⟩
    refine ⟨_, rfl, ?_⟩
    by_cases er : b.own.kd = .row
    · refine iteT' (decide_eq_true er) ?_
      tm_at "rds"
      refine fun p vs H' s' f' g' i' => k p vs H' (s1.trans s') (s1.free f') g' ?_
      unfold flowI
      rw [if_neg el, if_pos er]
      exact i'
    refine iteF' (decide_eq_false er) ?_
    obtain ⟨bdx, bq, bfs, hbx2, lbx, hbq⟩ := hb.boxesA (fun e => el (.inl e)) (fun e => el (.inr e))
    have fin : ∀ (p : Addr) (vs : List V) (H' : Hp), Same H1 H' → H1 p = none → H' p = some (.lst vs) → ItmsAt H' vs (allI b.kids "rise") → Q (.ref p) H' := fun p vs H' s' f' g' i' => by
      refine k p vs H' (s1.trans s') (s1.free f') g' ?_
      unfold flowI
      rw [if_neg el, if_neg er]
      exact i'
    tm_at "rds"
    cases ek : b.own.kd with
    | row => exact absurd ek er
    | words => exact absurd (.inl ek) el
    | picture => exact absurd (.inr ek) el
    | pile =>
      rw [ek] at hbx2
      refine ⟨_, _, _, _, _, rfl, s1 _ _ hbx2, T.c_Pile.cls, T.n_Pile_boxes, lbx, ?_⟩
      tm_at "rds"
      exact ⟨bq, b.kids, "rise", rfl, .inr (sqT (s1 _ _ hbq)), hb1.kid, hb.few, fin⟩
    | grid =>
      rw [ek] at hbx2
      refine ⟨_, _, _, _, _, rfl, s1 _ _ hbx2, T.c_Grid.cls, T.n_Grid_boxes, lbx, ?_⟩
      tm_at "rds"
      exact ⟨bq, b.kids, "rise", rfl, .inr (sqT (s1 _ _ hbq)), hb1.kid, hb.few, fin⟩
end
end My
namespace My
open PySem PySem.Spec PyProof.Rows L2
section
variable {P : Program} {w : World} {K : PySem.W.Frag} {mg : Str → Option Value} {base : Heap}
theorem ok_rise_needs (T : Tx w K mg) : FnOk P w K mg base CX0 2 T.d_rise_needs.f T.d_rise_needs.fd ["nest", "frame", "name"] (sp_need "rise" (bcT T) T.c_Style.C T.c_Nest.C K) := by
  refine T.d_rise_needs.F.ok sc_rise_needs (fun vs H Q E h => ?_) (fun cdv A outer s H vs Q E hr h => ?_)
  · obtain ⟨x, fp, t, b, hv, ho, zw, zh, fw, fh, rfl, _⟩ := h
    rfl
  · obtain ⟨x, fp, t, b, hv, ho, zw, zh, fw, fh, rfl, hN, nd, me, hb, hho, hzw, hzh, hfp, hro, k⟩ := h
    have hN0 := hN
    obtain ⟨dx, o, d1, d2, hx, hoo, h1, h2⟩ := hN
    refine ⟨_, (pss_cons (ps_set (i := 3) sc_rise_needs.nd rfl (Or.inl rfl) (pe_fldK (K := K) rfl (pe_fldK (K := K) rfl (pe_dget (hu_of hr) (pe_fldK (K := K) rfl (pv 0) rfl) (pv 2) (fun _ _ => rfl)) rfl) rfl))
      (pss_cons (ps_if (pt_cmpR op_isN (pv 3) pe_non (nomark _))
      (pss_one (ps_ret (pe_lstA (pa_cons (pe_tupA (pa_cons (pv 2) (pa_cons pe_str pa_nil))) pa_nil))))
      pss_nil)
      (pss_cons (ps_if (pt_val (pe_call (ok_is_part T) (hr.mono (by decide)) (by rfl) T.d_is_part.g T.d_is_part.F.kp T.d_is_part.b .nil pass0 (pa_cons (pv 3) pa_nil)))
      (pss_one (ps_ret (pe_lstA (pa_cons (pe_tupA (pa_cons (pe_dget (hu_of hr) (pe_fldK (K := K) rfl (pv 0) rfl) (pv 2) (fun _ _ => rfl)) (pa_cons pe_str pa_nil))) pa_nil))))
      pss_nil)
      (pss_cons (ps_if (pt_val (pe_call (ok_is_tie T) (hr.mono (by decide)) (by rfl) T.d_is_tie.g T.d_is_tie.F.kp T.d_is_tie.b .nil pass0 (pa_cons (pv 3) pa_nil)))
      (pss_one (ps_ret (pe_lstA (pa_cons (pe_call (ok_tied T) (hr.mono (by decide)) (by rfl) T.d_tied.g T.d_tied.F.kp T.d_tied.b .nil pass0 (pa_cons (pv 3) pa_nil)) pa_nil))))
      pss_nil)
      (pss_one (ps_ret (pe_lstA pa_nil))))))), ?_⟩
    have va := val_at (f := fun e => V.ref e.1) nd me
    have vh := val_at (f := fun e => e.2.2) nd me
    obtain ⟨bd, y, dy, fs, hbx, ln, ls, hy, lh, hn, ok⟩ := hb.ob
    obtain ⟨w0, w1, w2, w3, w4, w5, w6, w7, w8, w9, eb⟩ := ten ok.1
    have hyw := hy
    rw [eb] at hyw
    have hz0 : SzV H w0 zw := by rw [eb] at hzw; exact hzw
    have hz1 : SzV H w1 zh := by rw [eb] at hzh; exact hzh
    tm_at "rds"
    have k : NewIts H (riseI b zh ho) Q := k
    refine ⟨_, _, _, _, _, rfl, hx, T.c_Nest.cls, T.n_Nest_box_by, rfl, ?_⟩
    tm_at "rds"
    refine ⟨d1, _, rfl, .inl ⟨bxs (t.pre .non), keyS b.nm, .inl h1, rfl, va.symm⟩, ?_⟩
    refine ⟨_, _, _, _, _, rfl, hbx, (kdT T).cl _, (kdT T).sy _, ls, ?_⟩
    tm_at "rds"
    refine ⟨_, _, _, _, _, rfl, hyw, T.c_Style.cls, T.n_Style_high, rfl, ?_⟩
    dsimp only [gName]
    tm_at "rds"
    rw [hz1.nn]
    cases zh with
    | non =>
      refine iteT' (by rfl) ?_
      tm_at "rds"
      intro p1 H1 f1 s1 g1
      tm_at "rds"
      intro p2 H2 f2 s2 g2
      exact k p2 _ H2 (s1.trans s2) (s1.free f2) g2 (.cons (.of (s2 _ _ g1)) .nil)
    | part n =>
      refine iteF' (by rfl) ?_
      tm_at "rd"
      dsimp only [tNil, List.cons_append, List.nil_append]
      refine isPartP hz1.pt ?_
      refine ⟨_, rfl, ?_⟩
      refine iteT' (by rfl) ?_
      rcases hho with ⟨_, rfl⟩ | ⟨a, hw, rfl, ma, ba, rfl, mk⟩
      · have := (hro rfl).2
        cases this
      tm_at "rds"
      refine ⟨_, _, _, _, _, rfl, hx, T.c_Nest.cls, T.n_Nest_holder_by, rfl, ?_⟩
      tm_at "rds"
      refine ⟨d2, _, rfl, .inl ⟨hds (t.pre .non), keyS b.nm, .inl h2, rfl, vh.symm⟩, ?_⟩
      tm_at "rds"
      intro p1 H1 f1 s1 g1
      tm_at "rds"
      intro p2 H2 f2 s2 g2
      exact k p2 _ H2 (s1.trans s2) (s1.free f2) g2 (.cons (.of (s2 _ _ g1)) .nil)
    | tie l sd m =>
      refine iteF' (by rfl) ?_
      tm_at "rd"
      dsimp only [tNil, List.cons_append, List.nil_append]
      refine isPartP hz1.pt ?_
      refine ⟨_, rfl, ?_⟩
      refine iteF' (by rfl) ?_
      tm_at "rd"
      dsimp only [tNil, List.cons_append, List.nil_append]
      refine isTieP hz1.ti ?_
      refine ⟨_, rfl, ?_⟩
      refine iteT' (by rfl) ?_
      tm_at "rds"
      obtain ⟨ta, et, gt⟩ := hz1
      subst et
      refine ⟨ta, l, sd, m, rfl, gt, fun p1 H1 s1 f1 g1 => ?_⟩
      tm_at "rds"
      intro p2 H2 f2 s2 g2
      exact k p2 _ H2 (s1.trans s2) (s1.free f2) g2 (.cons (.of (s2 _ _ g1)) .nil)
    | cells n =>
      refine iteF' (by rfl) ?_
      tm_at "rd"
      dsimp only [tNil, List.cons_append, List.nil_append]
      refine isPartP hz1.pt ?_
      refine ⟨_, rfl, ?_⟩
      refine iteF' (by rfl) ?_
      tm_at "rd"
      dsimp only [tNil, List.cons_append, List.nil_append]
      refine isTieP hz1.ti ?_
      refine ⟨_, rfl, ?_⟩
      refine iteF' (by rfl) ?_
      tm_at "rds"
      intro p1 H1 f1 s1 g1
      exact k p1 _ H1 s1 f1 g1 .nil
end
end My
namespace My
open PySem PySem.Spec PyProof.Rows L2
section
variable {P : Program} {w : World} {K : PySem.W.Frag} {mg : Str → Option Value} {base : Heap}
def sp_stretches (bc : Kd → Addr) (S : Addr) (K : PySem.W.Frag) : Sp := fun vs H Q _ => ∃ (b a : At) (zh : Sz), vs = [.ref b.x, .ref a.x] ∧ BoxAt bc S K H b ∧ BoxAt bc S K H a ∧ a.own.kd ≠ .words ∧ a.own.kd ≠ .picture ∧ SzV H (b.st.getD 1 .non) zh ∧ Q (.bl (zh.isNon && isSt "stretch" b a)) H
theorem ok_stretches (T : Tx w K mg) : FnOk P w K mg base CX0 2 T.d_stretches.f T.d_stretches.fd ["box", "holder"] (sp_stretches (bcT T) T.c_Style.C K) := by
  refine T.d_stretches.F.ok sc_stretches (fun vs H Q E h => ?_) (fun cdv A outer s H vs Q E hr h => ?_)
  · obtain ⟨b, a, zh, rfl, _⟩ := h
    rfl
  · obtain ⟨b, a, zh, rfl, hb, ha, n1, n2, hz, k⟩ := h
    refine ⟨_, (pss_one (ps_ret (pe_and (pe_cmpR op_isN (pe_fldK (K := K) rfl (pe_fldK (K := K) rfl (pv 0) rfl) rfl) pe_non (nomark _)) (pe_one (pe_cmpR op_eq (pe_call (ok_stand_of T) (hr.mono (by decide)) (by rfl) T.d_stand_of.g T.d_stand_of.F.kp T.d_stand_of.b .nil pass0 (pa_cons (pv 0) (pa_cons (pv 1) pa_nil))) pe_str (nomark _)))))), ?_⟩
    obtain ⟨bd, y, dy, fs, hbx, ln, ls, hy, lh, hn, ok⟩ := hb.ob
    obtain ⟨w0, w1, w2, w3, w4, w5, w6, w7, w8, w9, eb⟩ := ten ok.1
    have hyw := hy
    rw [eb] at hyw hz
    have hz : SzV H w1 zh := hz
    tm_at "rds"
    refine ⟨_, _, _, _, _, rfl, hbx, (kdT T).cl _, (kdT T).sy _, ls, ?_⟩
    tm_at "rds"
    refine ⟨_, _, _, _, _, rfl, hyw, T.c_Style.cls, T.n_Style_high, rfl, ?_⟩
    tm_at "rds"
    rw [hz.nn]
    cases e : zh.isNon with
    | false =>
      rw [e] at k
      refine iteF' (by rfl) ?_
      exact k
    | true =>
      rw [e] at k
      refine iteT' (by rfl) ?_
      tm_at "rds"
      obtain ⟨s, es⟩ := standV_str (a := a) ok
      refine ⟨by rw [es]; rfl, ?_⟩
      exact k
end
end My
namespace My
open PySem PySem.Spec PyProof.Rows L2
section
variable {P : Program} {w : World} {K : PySem.W.Frag} {mg : Str → Option Value} {base : Heap}
theorem ok_tall_needs (T : Tx w K mg) : FnOk P w K mg base CX0 9 T.d_tall_needs.f T.d_tall_needs.fd ["nest", "frame", "name"] (sp_need "tall" (bcT T) T.c_Style.C T.c_Nest.C K) := by
  refine T.d_tall_needs.F.ok sc_tall_needs (fun vs H Q E h => ?_) (fun cdv A outer s H vs Q E hr h => ?_)
  · obtain ⟨x, fp, t, b, hv, ho, zw, zh, fw, fh, rfl, _⟩ := h
    rfl
  · obtain ⟨x, fp, t, b, hv, ho, zw, zh, fw, fh, rfl, hN, nd, me, hb, hho, hzw, hzh, hfp, hro, k⟩ := h
    have hN0 := hN
    obtain ⟨dx, o, d1, d2, hx, hoo, h1, h2⟩ := hN
    refine ⟨_, (pss_cons (ps_set (i := 3) sc_tall_needs.nd rfl (Or.inl rfl) (pe_dget (hu_of hr) (pe_fldK (K := K) rfl (pv 0) rfl) (pv 2) (fun _ _ => rfl)))
      (pss_cons (ps_set (i := 4) sc_tall_needs.nd rfl (Or.inl rfl) (pe_call (ok_holder_box T) (hr.mono (by decide)) (by rfl) T.d_holder_box.g T.d_holder_box.F.kp T.d_holder_box.b .nil pass0 (pa_cons (pv 0) (pa_cons (pv 2) pa_nil))))
      (pss_cons (ps_if (pt_cmpR op_isN (pv 4) pe_non (nomark _))
      (pss_cons (ps_if (pt_cmpR op_isN (pe_ix (ix_tupK (K := K) rfl) (pv 1) pe_int (fun _ _ => rfl)) pe_non (nomark _))
      (pss_one (ps_ret (pe_lstA (pa_cons (pe_tupA (pa_cons (pv 2) (pa_cons pe_str pa_nil))) pa_nil))))
      pss_nil)
      (pss_one (ps_ret (pe_lstA pa_nil))))
      pss_nil)
      (pss_cons (ps_set (i := 5) sc_tall_needs.nd rfl (Or.inl rfl) (pe_lstA (pa_cons (pe_tupA (pa_cons (pe_fldK (K := K) rfl (pv 4) rfl) (pa_cons pe_str pa_nil))) pa_nil)))
      (pss_cons (ps_if (pt_val (pe_callB (call_isiK (K := K) rfl) (by rfl) T.b_isinstance (by decide +kernel) (pa_cons (pv 4) (pa_cons (pe_glob (v := .ref T.c_Pile.C) (by rfl) T.c_Pile.g rfl) pa_nil))))
      (pss_one (ps_ret (pe_op (op_catK (K := K) rfl) (pv 5) (pe_call (ok_all_of T) (hr.mono (by decide)) (by rfl) T.d_all_of.g T.d_all_of.F.kp T.d_all_of.b .nil pass0 (pa_cons (pe_fldK (K := K) rfl (pv 4) rfl) (pa_cons pe_str pa_nil))))))
      pss_nil)
      (pss_cons (ps_if (pt_not (pt_val (pe_call (ok_stretches T) (hr.mono (by decide)) (by rfl) T.d_stretches.g T.d_stretches.F.kp T.d_stretches.b .nil pass0 (pa_cons (pv 3) (pa_cons (pv 4) pa_nil)))))
      (pss_one (ps_ret (pe_lstA (pa_cons (pe_tupA (pa_cons (pv 2) (pa_cons pe_str pa_nil))) pa_nil))))
      pss_nil)
      (pss_cons (ps_if (pt_val (pe_callB (call_isiK (K := K) rfl) (by rfl) T.b_isinstance (by decide +kernel) (pa_cons (pv 4) (pa_cons (pe_glob (v := .ref T.c_Grid.C) (by rfl) T.c_Grid.g rfl) pa_nil))))
      (pss_one (ps_ret (pe_op (op_catK (K := K) rfl) (pv 5) (pe_call (ok_all_of T) (hr.mono (by decide)) (by rfl) T.d_all_of.g T.d_all_of.F.kp T.d_all_of.b .nil pass0 (pa_cons (pe_fldK (K := K) rfl (pv 4) rfl) (pa_cons pe_str pa_nil))))))
      pss_nil)
      (pss_cons (ps_if (pt_val (pe_fldK (K := K) rfl (pv 4) rfl))
      (pss_one (ps_ret (pe_call (ok_line_needs T) (hr.mono (by decide)) (by rfl) T.d_line_needs.g T.d_line_needs.F.kp T.d_line_needs.b .nil pass0 (pa_cons (pv 4) pa_nil))))
      pss_nil)
      (pss_one (ps_ret (pv 5))))))))))), ?_⟩
    have va := val_at (f := fun e => V.ref e.1) nd me
    have vh := val_at (f := fun e => e.2.2) nd me
    obtain ⟨bd, y, dy, fs, hbx, ln, ls, hy, lh, hn, ok⟩ := hb.ob
    obtain ⟨w0, w1, w2, w3, w4, w5, w6, w7, w8, w9, eb⟩ := ten ok.1
    have hyw := hy
    rw [eb] at hyw
    have hz0 : SzV H w0 zw := by rw [eb] at hzw; exact hzw
    have hz1 : SzV H w1 zh := by rw [eb] at hzh; exact hzh
    tm_at "rds"
    refine ⟨_, _, _, _, _, rfl, hx, T.c_Nest.cls, T.n_Nest_box_by, rfl, ?_⟩
    tm_at "rds"
    refine ⟨d1, _, rfl, .inl ⟨bxs (t.pre .non), keyS b.nm, .inl h1, rfl, va.symm⟩, ?_⟩
    dsimp only [gName]
    tm_at "rds"
    have k : NewIts H (tallI b zh (decide (fh = .non)) ho) Q := k
    refine ⟨x, t, b, hv, ho, rfl, hN0, nd, me, hho, ?_⟩
    dsimp only [gName]
    rcases hho with ⟨rfl, rfl⟩ | ⟨a, hw, rfl, ma, ba, rfl, mk⟩
    · tm_at "rds"
      refine ⟨_, _, _, _, rfl, rfl, sqT hfp, rfl, ?_⟩
      tm_at "rds"
      refine ite2 (fun e => ?_) (fun e => ?_)
      · tm_at "rds"
        intro p1 H1 f1 s1 g1
        tm_at "rds"
        intro p2 H2 f2 s2 g2
        refine k p2 _ H2 (s1.trans s2) (s1.free f2) g2 ?_
        unfold tallI
        dsimp only
        rw [if_pos e]
        exact .cons (.of (s2 _ _ g1)) .nil
      · tm_at "rds"
        intro p1 H1 f1 s1 g1
        refine k p1 _ H1 s1 f1 g1 ?_
        unfold tallI
        dsimp only
        rw [if_neg e]
        exact .nil
    obtain ⟨adx, ay, ady, afs, hax, aln, als, _⟩ := ba.ob
    have ak1 : a.own.kd ≠ .words := fun z => by rw [ba.leaf (.inl z)] at mk; cases mk
    have ak2 : a.own.kd ≠ .picture := fun z => by rw [ba.leaf (.inr z)] at mk; cases mk
    tm_at "rds"
    tm_at "rds"
    dsimp only
    refine ⟨_, _, _, _, _, rfl, hax, (kdT T).cl _, (kdT T).nm _, aln, ?_⟩
    tm_at "rds"
    intro p1 H1 f1 s1 g1
    tm_at "rds"
    intro p3 H3 f3 s3 g3
    have s03 := s1.trans s3
    have f03 : H p3 = none := s1.free f3
    have i3 : ItmsAt H3 [.ref p1] [(a.nm, "tall")] := .cons (.of (s3 _ _ g1)) .nil
    have ba3 := ba.ks (Same.ks s03)
    obtain ⟨bdx, aq, bfs, hbx2, lbx, haq⟩ := ba.boxesA ak1 ak2
    dsimp only [gName]
    tm_at "rds"
    refine ⟨_, _, _, _, decide (a.own.kd = .pile), rfl, .own _, ba3.tyx (kdT T), (kdT T).is_ a.own.kd .pile, ?_⟩
    refine ⟨_, rfl, ?_⟩
    by_cases e1 : a.own.kd = .pile
    · refine iteT' (decide_eq_true e1) ?_
      rw [e1] at hbx2
      tm_at "rds"
      refine ⟨_, _, _, _, _, rfl, s03 _ _ hbx2, T.c_Pile.cls, T.n_Pile_boxes, lbx, ?_⟩
      tm_at "rds"
      refine ⟨aq, a.kids, "rise", rfl, .inr (sqT (s03 _ _ haq)), ba3.kid, ba.few, fun p7 us7 H7 s7 f7 g7 i7 => ?_⟩
      have l7 : us7.length ≤ 1000 := by rw [i7.1, allI_len]; exact ba.few
      refine ⟨p3, p7, _, us7, rfl, rfl, s7 _ _ g3, g7, by rw [sizeLine_eq]; show 1 + _ ≤ _; omega, fun p8 H8 f8 s8 g8 => ?_⟩
      refine k p8 _ H8 (s03.trans (s7.trans s8)) ((s03.trans s7).free f8) g8 ?_
      unfold tallI
      dsimp only
      rw [if_pos e1]
      exact (i3.ks (Same.ks (s7.trans s8))).app (i7.ks (Same.ks s8))
    refine iteF' (decide_eq_false e1) ?_
    tm_at "rds"
    refine ⟨b, a, zh, rfl, hb.ks (Same.ks s03), ba3, ak1, ak2, hzh.ks (Same.ks s03), ?_⟩
    refine ⟨_, rfl, ?_⟩
    cases ez : (zh.isNon && isSt "stretch" b a) with
    | false =>
      refine iteT' (by rfl) ?_
      tm_at "rds"
      intro p4 H4 f4 s4 g4
      tm_at "rds"
      intro p5 H5 f5 s5 g5
      refine k p5 _ H5 (s03.trans (s4.trans s5)) ((s03.trans s4).free f5) g5 ?_
      unfold tallI
      dsimp only
      rw [if_neg e1, if_pos ez]
      exact .cons (.of (s5 _ _ g4)) .nil
    | true =>
    have ezn : ¬ (zh.isNon && isSt "stretch" b a) = false := by rw [ez]; decide
    refine iteF' (by rfl) ?_
    tm_at "rds"
    refine ⟨_, _, _, _, decide (a.own.kd = .grid), rfl, .own _, ba3.tyx (kdT T), (kdT T).is_ a.own.kd .grid, ?_⟩
    refine ⟨_, rfl, ?_⟩
    by_cases e2 : a.own.kd = .grid
    · refine iteT' (decide_eq_true e2) ?_
      rw [e2] at hbx2
      tm_at "rds"
      refine ⟨_, _, _, _, _, rfl, s03 _ _ hbx2, T.c_Grid.cls, T.n_Grid_boxes, lbx, ?_⟩
      tm_at "rds"
      refine ⟨aq, a.kids, "rise", rfl, .inr (sqT (s03 _ _ haq)), ba3.kid, ba.few, fun p7 us7 H7 s7 f7 g7 i7 => ?_⟩
      have l7 : us7.length ≤ 1000 := by rw [i7.1, allI_len]; exact ba.few
      refine ⟨p3, p7, _, us7, rfl, rfl, s7 _ _ g3, g7, by rw [sizeLine_eq]; show 1 + _ ≤ _; omega, fun p8 H8 f8 s8 g8 => ?_⟩
      refine k p8 _ H8 (s03.trans (s7.trans s8)) ((s03.trans s7).free f8) g8 ?_
      unfold tallI
      dsimp only
      rw [if_neg e1, if_neg ezn, if_pos e2]
      exact (i3.ks (Same.ks (s7.trans s8))).app (i7.ks (Same.ks s8))
    refine iteF' (decide_eq_false e2) ?_
    have e3 : a.own.kd = .row := by
      cases z : a.own.kd with
      | row => rfl
      | words => exact absurd z ak1
      | picture => exact absurd z ak2
      | pile => exact absurd z e1
      | grid => exact absurd z e2
    obtain ⟨tdx, tfs, htx, ltn, lnm⟩ := ba.turnA e3
    tm_at "rds"
    refine ⟨_, _, _, _, _, rfl, s03 _ _ htx, T.c_Row.cls, T.n_Row_turn, ltn, ?_⟩
    refine ⟨_, rfl, ?_⟩
    cases et : a.own.turn with
    | true =>
      refine iteT' (by rfl) ?_
      tm_at "rds"
      refine fun p6 us6 H6 s6 f6 g6 i6 => ?_
      refine k p6 _ H6 (s03.trans s6) (s03.free f6) g6 ?_
      unfold tallI
      dsimp only
      rw [if_neg e1, if_neg ezn, if_neg e2, if_pos et]
      exact i6
    | false =>
      refine iteF' (by rfl) ?_
      tm_at "rds"
      refine k p3 _ H3 s03 f03 g3 ?_
      unfold tallI
      dsimp only
      rw [if_neg e1, if_neg ezn, if_neg e2, if_neg (by rw [et]; decide)]
      exact i3
end
end My
namespace My
open PySem PySem.Spec PyProof.Rows L2
section
variable {P : Program} {w : World} {K : PySem.W.Frag} {mg : Str → Option Value} {base : Heap}
theorem ok_base_needs (T : Tx w K mg) : FnOk P w K mg base CX0 9 T.d_base_needs.f T.d_base_needs.fd ["nest", "frame", "name"] (sp_need "base" (bcT T) T.c_Style.C T.c_Nest.C K) := by
  refine T.d_base_needs.F.ok sc_base_needs (fun vs H Q E h => ?_) (fun cdv A outer s H vs Q E hr h => ?_)
  · obtain ⟨x, fp, t, b, hv, ho, zw, zh, fw, fh, rfl, _⟩ := h
    rfl
  · obtain ⟨x, fp, t, b, hv, ho, zw, zh, fw, fh, rfl, hN, nd, me, hb, hho, hzw, hzh, hfp, hro, k⟩ := h
    have hN0 := hN
    obtain ⟨dx, o, d1, d2, hx, hoo, h1, h2⟩ := hN
    refine ⟨_, (pss_cons (ps_set (i := 3) sc_base_needs.nd rfl (Or.inl rfl) (pe_dget (hu_of hr) (pe_fldK (K := K) rfl (pv 0) rfl) (pv 2) (fun _ _ => rfl)))
      (pss_cons (ps_if (pt_val (pe_callB (call_isiK (K := K) rfl) (by rfl) T.b_isinstance (by decide +kernel) (pa_cons (pv 3) (pa_cons (pe_glob (v := .ref T.c_Words.C) (by rfl) T.c_Words.g rfl) pa_nil))))
      (pss_one (ps_ret (pe_lstA pa_nil)))
      pss_nil)
      (pss_cons (ps_set (i := 4) sc_base_needs.nd rfl (Or.inl rfl) (pe_methK (pv 3) (poly_held_boxes T) (hr.mono (by decide))))
      (pss_cons (ps_if (pt_cmpR op_gt (pe_callB (call_lenK (K := K) rfl) (by rfl) T.b_len (by decide +kernel) (pa_cons (pv 4) pa_nil)) pe_int (nomark _))
      (pss_one (ps_ret (pe_lstA (pa_cons (pe_tupA (pa_cons (pe_fldK (K := K) rfl (pe_ix (ix_tupK (K := K) rfl) (pv 4) pe_int (fun _ _ => rfl)) rfl) (pa_cons pe_str pa_nil))) pa_nil))))
      pss_nil)
      (pss_one (ps_ret (pe_lstA (pa_cons (pe_tupA (pa_cons (pv 2) (pa_cons pe_str pa_nil))) pa_nil)))))))), ?_⟩
    have va := val_at (f := fun e => V.ref e.1) nd me
    have vh := val_at (f := fun e => e.2.2) nd me
    obtain ⟨bd, y, dy, fs, hbx, ln, ls, hy, lh, hn, ok⟩ := hb.ob
    obtain ⟨w0, w1, w2, w3, w4, w5, w6, w7, w8, w9, eb⟩ := ten ok.1
    have hyw := hy
    rw [eb] at hyw
    have hz0 : SzV H w0 zw := by rw [eb] at hzw; exact hzw
    have hz1 : SzV H w1 zh := by rw [eb] at hzh; exact hzh
    tm_at "rds"
    refine ⟨_, _, _, _, _, rfl, hx, T.c_Nest.cls, T.n_Nest_box_by, rfl, ?_⟩
    tm_at "rds"
    refine ⟨d1, _, rfl, .inl ⟨bxs (t.pre .non), keyS b.nm, .inl h1, rfl, va.symm⟩, ?_⟩
    dsimp only [gName]
    tm_at "rds"
    have k : NewIts H (baseI b) Q := k
    refine ⟨_, _, _, _, decide (b.own.kd = .words), rfl, .own _, hb.tyx (kdT T), (kdT T).is_ b.own.kd .words, ?_⟩
    refine ⟨_, rfl, ?_⟩
    by_cases e : b.own.kd = .words
    · refine iteT' (decide_eq_true e) ?_
      tm_at "rds"
      intro p1 H1 f1 s1 g1
      refine k p1 _ H1 s1 f1 g1 ?_
      unfold baseI
      rw [if_pos e]
      exact .nil
    refine iteF' (decide_eq_false e) ?_
    tm_at "rds"
    refine ⟨b.x, b.own.kd, bd, fs, rfl, hbx, lh, b, rfl, hb, rfl, fun q H3 s3 g3 => ?_⟩
    dsimp only [gName]
    tm_at "rzs"
    have eb0 : baseI b = match b.kids with | k :: _ => [(k.nm, "base")] | [] => [(b.nm, "rise")] := by
      unfold baseI
      exact if_neg e
    cases hk : b.kids with
    | nil =>
      rw [hk] at g3
      refine iteF' (by show decide ((0 : Int) < ((0 : Nat) : Int)) = false; decide) ?_
      tm_at "rds"
      intro p1 H1 f1 s1 g1
      tm_at "rds"
      intro p2 H2 f2 s2 g2
      refine k p2 _ H2 ((s3.trans s1).trans s2) ((s3.trans s1).free f2) g2 ?_
      rw [eb0, hk]
      exact .cons (.of (s2 _ _ g1)) .nil
    | cons k0 ks =>
      rw [hk] at g3
      refine iteT' (by show decide ((0 : Int) < (((refs ks).length + 1 : Nat) : Int)) = true; exact decide_eq_true (by omega)) ?_
      have hk0 := (hb.kid k0 (by rw [hk]; exact List.mem_cons_self)).ks (Same.ks s3)
      obtain ⟨kd, ky, kdy, kfs, hkx, kln, _⟩ := hk0.ob
      tm_at "rds"
      refine ⟨_, _, _, _, rfl, rfl, sqT g3, (atI_nat (j := 0) (xs := refs (k0 :: ks)) rfl : atI (refs (k0 :: ks)) 0 = some (.ref k0.x)), ?_⟩
      refine ⟨_, _, _, _, _, rfl, hkx, (kdT T).cl _, (kdT T).nm _, kln, ?_⟩
      tm_at "rds"
      intro p1 H1 f1 s1 g1
      tm_at "rds"
      intro p2 H2 f2 s2 g2
      refine k p2 _ H2 ((s3.trans s1).trans s2) ((s3.trans s1).free f2) g2 ?_
      rw [eb0, hk]
      exact .cons (.of (s2 _ _ g1)) .nil
end
end My
namespace My
open PySem PySem.Spec PyProof.Rows L2
section
variable {P : Program} {w : World} {K : PySem.W.Frag} {mg : Str → Option Value} {base : Heap}
theorem ok_top_needs (T : Tx w K mg) : FnOk P w K mg base CX0 9 T.d_top_needs.f T.d_top_needs.fd ["nest", "frame", "name"] (sp_need "top" (bcT T) T.c_Style.C T.c_Nest.C K) := by
  refine T.d_top_needs.F.ok sc_top_needs (fun vs H Q E h => ?_) (fun cdv A outer s H vs Q E hr h => ?_)
  · obtain ⟨x, fp, t, b, hv, ho, zw, zh, fw, fh, rfl, _⟩ := h
    rfl
  · obtain ⟨x, fp, t, b, hv, ho, zw, zh, fw, fh, rfl, hN, nd, me, hb, hho, hzw, hzh, hfp, hro, k⟩ := h
    have hN0 := hN
    obtain ⟨dx, o, d1, d2, hx, hoo, h1, h2⟩ := hN
    refine ⟨_, (pss_cons (ps_set (i := 3) sc_top_needs.nd rfl (Or.inl rfl) (pe_call (ok_holder_box T) (hr.mono (by decide)) (by rfl) T.d_holder_box.g T.d_holder_box.F.kp T.d_holder_box.b .nil pass0 (pa_cons (pv 0) (pa_cons (pv 2) pa_nil))))
      (pss_cons (ps_if (pt_cmpR op_isN (pv 3) pe_non (nomark _))
      (pss_one (ps_ret (pe_lstA pa_nil)))
      pss_nil)
      (pss_cons (ps_set (i := 4) sc_top_needs.nd rfl (Or.inl rfl) (pe_lstA (pa_cons (pe_tupA (pa_cons (pe_fldK (K := K) rfl (pv 3) rfl) (pa_cons pe_str pa_nil))) pa_nil)))
      (pss_cons (ps_if (pt_val (pe_callB (call_isiK (K := K) rfl) (by rfl) T.b_isinstance (by decide +kernel) (pa_cons (pv 3) (pa_cons (pe_glob (v := .ref T.c_Pile.C) (by rfl) T.c_Pile.g rfl) pa_nil))))
      (pss_one (ps_ret (pe_op (op_catK (K := K) rfl) (pe_op (op_catK (K := K) rfl) (pv 4) (pe_lstA (pa_cons (pe_tupA (pa_cons (pe_fldK (K := K) rfl (pv 3) rfl) (pa_cons pe_str pa_nil))) pa_nil))) (pe_call (ok_all_of T) (hr.mono (by decide)) (by rfl) T.d_all_of.g T.d_all_of.F.kp T.d_all_of.b .nil pass0 (pa_cons (pe_fldK (K := K) rfl (pv 3) rfl) (pa_cons pe_str pa_nil))))))
      pss_nil)
      (pss_cons (ps_expr (pe_bm PySem.F.plainAttrs_list PySem.F.slot_list_append PySem.F.type_list_append mt_appendA (pv 4) (pa_cons (pe_tupA (pa_cons (pv 2) (pa_cons pe_str pa_nil))) pa_nil)))
      (pss_cons (ps_if (pt_val (pe_callB (call_isiK (K := K) rfl) (by rfl) T.b_isinstance (by decide +kernel) (pa_cons (pv 3) (pa_cons (pe_glob (v := .ref T.c_Grid.C) (by rfl) T.c_Grid.g rfl) pa_nil))))
      (pss_one (ps_ret (pe_op (op_catK (K := K) rfl) (pe_op (op_catK (K := K) rfl) (pv 4) (pe_lstA (pa_cons (pe_tupA (pa_cons (pe_fldK (K := K) rfl (pv 3) rfl) (pa_cons pe_str pa_nil))) pa_nil))) (pe_call (ok_all_of T) (hr.mono (by decide)) (by rfl) T.d_all_of.g T.d_all_of.F.kp T.d_all_of.b .nil pass0 (pa_cons (pe_fldK (K := K) rfl (pv 3) rfl) (pa_cons pe_str pa_nil))))))
      pss_nil)
      (pss_cons (ps_if (pt_val (pe_fldK (K := K) rfl (pv 3) rfl))
      (pss_one (ps_ret (pe_op (op_catK (K := K) rfl) (pv 4) (pe_call (ok_line_needs T) (hr.mono (by decide)) (by rfl) T.d_line_needs.g T.d_line_needs.F.kp T.d_line_needs.b .nil pass0 (pa_cons (pv 3) pa_nil)))))
      pss_nil)
      (pss_one (ps_ret (pe_op (op_catK (K := K) rfl) (pe_op (op_catK (K := K) rfl) (pv 4) (pe_lstA (pa_cons (pe_tupA (pa_cons (pe_fldK (K := K) rfl (pv 3) rfl) (pa_cons pe_str pa_nil))) pa_nil))) (pe_call (ok_all_of T) (hr.mono (by decide)) (by rfl) T.d_all_of.g T.d_all_of.F.kp T.d_all_of.b .nil pass0 (pa_cons (pe_call (ok_based T) (hr.mono (by decide)) (by rfl) T.d_based.g T.d_based.F.kp T.d_based.b .nil pass0 (pa_cons (pv 3) pa_nil)) (pa_cons pe_str pa_nil))))))))))))), ?_⟩
    have va := val_at (f := fun e => V.ref e.1) nd me
    have vh := val_at (f := fun e => e.2.2) nd me
    obtain ⟨bd, y, dy, fs, hbx, ln, ls, hy, lh, hn, ok⟩ := hb.ob
    obtain ⟨w0, w1, w2, w3, w4, w5, w6, w7, w8, w9, eb⟩ := ten ok.1
    have hyw := hy
    rw [eb] at hyw
    have hz0 : SzV H w0 zw := by rw [eb] at hzw; exact hzw
    have hz1 : SzV H w1 zh := by rw [eb] at hzh; exact hzh
    tm_at "rds"
    have k : NewIts H (topI b ho) Q := k
    refine ⟨x, t, b, hv, ho, rfl, hN0, nd, me, hho, ?_⟩
    dsimp only [gName]
    rcases hho with ⟨rfl, rfl⟩ | ⟨a, hw, rfl, ma, ba, rfl, mk⟩
    · tm_at "rds"
      intro p1 H1 f1 s1 g1
      exact k p1 _ H1 s1 f1 g1 .nil
    obtain ⟨adx, ay, ady, afs, hax, aln, als, _⟩ := ba.ob
    have ak1 : a.own.kd ≠ .words := fun z => by rw [ba.leaf (.inl z)] at mk; cases mk
    have ak2 : a.own.kd ≠ .picture := fun z => by rw [ba.leaf (.inr z)] at mk; cases mk
    tm_at "rds"
    tm_at "rds"
    dsimp only
    refine ⟨_, _, _, _, _, rfl, hax, (kdT T).cl _, (kdT T).nm _, aln, ?_⟩
    tm_at "rds"
    intro p1 H1 f1 s1 g1
    tm_at "rds"
    intro p3 H3 f3 s3 g3
    have s03 := s1.trans s3
    have f03 : H p3 = none := s1.free f3
    have i3 : ItmsAt H3 [.ref p1] [(a.nm, "top")] := .cons (.of (s3 _ _ g1)) .nil
    have ba3 := ba.ks (Same.ks s03)
    obtain ⟨bdx, aq, bfs, hbx2, lbx, haq⟩ := ba.boxesA ak1 ak2
    dsimp only [gName]
    tm_at "rds"
    refine ⟨_, _, _, _, decide (a.own.kd = .pile), rfl, .own _, ba3.tyx (kdT T), (kdT T).is_ a.own.kd .pile, ?_⟩
    refine ⟨_, rfl, ?_⟩
    by_cases e1 : a.own.kd = .pile
    · refine iteT' (decide_eq_true e1) ?_
      rw [e1] at hbx2
      tm_at "rds"
      refine ⟨_, _, _, _, _, rfl, s03 _ _ hax, (kdT T).cl _, (kdT T).nm _, aln, ?_⟩
      tm_at "rds"
      intro p4 H4 f4 s4 g4
      tm_at "rds"
      intro p5 H5 f5 s5 g5
      refine ⟨p3, p5, _, _, rfl, rfl, (s4.trans s5) _ _ g3, g5, by rw [sizeLine_eq]; show 1 + 1 ≤ _; decide, fun p6 H6 f6 s6 g6 => ?_⟩
      have s36 := (s4.trans s5).trans s6
      have s06 := s03.trans s36
      tm_at "rds"
      refine ⟨_, _, _, _, _, rfl, s06 _ _ hbx2, T.c_Pile.cls, T.n_Pile_boxes, lbx, ?_⟩
      tm_at "rds"
      refine ⟨aq, a.kids, "tall", rfl, .inr (sqT (s06 _ _ haq)), (ba.ks (Same.ks s06)).kid, ba.few, fun p7 us7 H7 s7 f7 g7 i7 => ?_⟩
      have l7 : us7.length ≤ 1000 := by rw [i7.1, allI_len]; exact ba.few
      refine ⟨p6, p7, _, us7, rfl, rfl, s7 _ _ g6, g7, by rw [sizeLine_eq]; show 2 + _ ≤ _; omega, fun p8 H8 f8 s8 g8 => ?_⟩
      refine k p8 _ H8 (s06.trans (s7.trans s8)) ((s06.trans s7).free f8) g8 ?_
      have e : topI b (some a) = ([(a.nm, "top")] ++ [(a.nm, "tall")]) ++ allI a.kids "tall" := by
        unfold topI
        dsimp only
        rw [if_pos e1]
        rfl
      rw [e]
      exact ((i3.ks (Same.ks (s36.trans (s7.trans s8)))).app (.cons (.of ((((s5.trans s6).trans s7).trans s8) _ _ g4)) .nil)).app (i7.ks (Same.ks s8))
    refine iteF' (decide_eq_false e1) ?_
    tm_at "rds"
    refine ⟨.inl ⟨rfl, _, sqL g3⟩, ?_⟩
    tm_at "rds"
    intro p4 H4 f4 s4 g4
    refine ⟨_, _, _, rfl, rfl, s4 _ _ g3, by rw [sizeLine_eq]; show 1 < _; decide, fun H5 b5 g5 => ?_⟩
    have s05 : Same H H5 := Same.mut' (s03.trans s4) b5 f03
    have k5 : KeepS H4 H5 := KeepS.refl.butL b5 (s4 _ _ g3)
    have i5 : ItmsAt H5 [.ref p1, .ref p4] [(a.nm, "top"), (b.nm, "tall")] := (i3.ks ((Same.ks s4).trans k5)).app (.cons ((ItAt.of g4).ks k5) .nil)
    have ba5 := ba.ks (Same.ks s05)
    tm_at "rds"
    refine ⟨_, _, _, _, decide (a.own.kd = .grid), rfl, .own _, ba5.tyx (kdT T), (kdT T).is_ a.own.kd .grid, ?_⟩
    refine ⟨_, rfl, ?_⟩
    have tl : ∀ (r : List Item), topI b (some a) = [(a.nm, "top"), (b.nm, "tall")] ++ r ↔ (if a.own.kd = .grid then (a.nm, "tall") :: allI a.kids "rise" else if a.own.turn = true then lineI a else (a.nm, "tall") :: allI (a.kids.filter fun k => isSt "base" k a) "base") = r := fun r => by
      unfold topI
      dsimp only
      rw [if_neg e1]
      simp
    by_cases e2 : a.own.kd = .grid
    · refine iteT' (decide_eq_true e2) ?_
      rw [e2] at hbx2
      tm_at "rds"
      refine ⟨_, _, _, _, _, rfl, s05 _ _ hax, (kdT T).cl _, (kdT T).nm _, aln, ?_⟩
      tm_at "rds"
      intro p6 H6 f6 s6 g6
      tm_at "rds"
      intro p7 H7 f7 s7 g7
      refine ⟨p3, p7, _, _, rfl, rfl, (s6.trans s7) _ _ g5, g7, by rw [sizeLine_eq]; show 2 + 1 ≤ _; decide, fun p8 H8 f8 s8 g8 => ?_⟩
      have s58 := (s6.trans s7).trans s8
      have s08 := s05.trans s58
      tm_at "rds"
      refine ⟨_, _, _, _, _, rfl, s08 _ _ hbx2, T.c_Grid.cls, T.n_Grid_boxes, lbx, ?_⟩
      tm_at "rds"
      refine ⟨aq, a.kids, "rise", rfl, .inr (sqT (s08 _ _ haq)), (ba.ks (Same.ks s08)).kid, ba.few, fun p9 us9 H9 s9 f9 g9 i9 => ?_⟩
      have l9 : us9.length ≤ 1000 := by rw [i9.1, allI_len]; exact ba.few
      refine ⟨p8, p9, _, us9, rfl, rfl, s9 _ _ g8, g9, by rw [sizeLine_eq]; show 3 + _ ≤ _; omega, fun pa Ha fa sa ga => ?_⟩
      refine k pa _ Ha (s08.trans (s9.trans sa)) ((s08.trans s9).free fa) ga ?_
      rw [(tl ([(a.nm, "tall")] ++ allI a.kids "rise")).mpr (by rw [if_pos e2]; rfl), ← List.append_assoc]
      exact ((i5.ks (Same.ks (s58.trans (s9.trans sa)))).app (.cons (.of ((((s7.trans s8).trans s9).trans sa) _ _ g6)) .nil)).app (i9.ks (Same.ks sa))
    refine iteF' (decide_eq_false e2) ?_
    have e3 : a.own.kd = .row := by
      cases z : a.own.kd with
      | row => rfl
      | words => exact absurd z ak1
      | picture => exact absurd z ak2
      | pile => exact absurd z e1
      | grid => exact absurd z e2
    obtain ⟨tdx, tfs, htx, ltn, lnm⟩ := ba.turnA e3
    tm_at "rds"
    refine ⟨_, _, _, _, _, rfl, s05 _ _ htx, T.c_Row.cls, T.n_Row_turn, ltn, ?_⟩
    refine ⟨_, rfl, ?_⟩
    cases et : a.own.turn with
    | true =>
      refine iteT' (by rfl) ?_
      tm_at "rds"
      refine fun p6 us6 H6 s6 f6 g6 i6 => ?_
      have l6 : us6.length ≤ 4000 := by
        rw [i6.1]
        unfold lineI
        have := ba.few
        have := List.length_filter_le (fun k => isSt "base" k a) a.kids
        rw [List.length_append, List.length_append, allI_len, allI_len]
        split <;> simp only [List.length_cons, List.length_nil, allI_len] <;> omega
      refine ⟨p3, p6, _, us6, rfl, rfl, s6 _ _ g5, g6, by rw [sizeLine_eq]; show 2 + _ ≤ _; omega, fun p7 H7 f7 s7 g7 => ?_⟩
      refine k p7 _ H7 (s05.trans (s6.trans s7)) ((s05.trans s6).free f7) g7 ?_
      rw [(tl (lineI a)).mpr (by rw [if_neg e2, if_pos et])]
      exact (i5.ks (Same.ks (s6.trans s7))).app (i6.ks (Same.ks s7))
    | false =>
      refine iteF' (by rfl) ?_
      tm_at "rds"
      refine ⟨_, _, _, _, _, rfl, s05 _ _ hax, (kdT T).cl _, (kdT T).nm _, aln, ?_⟩
      tm_at "rds"
      intro p6 H6 f6 s6 g6
      tm_at "rds"
      intro p7 H7 f7 s7 g7
      refine ⟨p3, p7, _, _, rfl, rfl, (s6.trans s7) _ _ g5, g7, by rw [sizeLine_eq]; show 2 + 1 ≤ _; decide, fun p8 H8 f8 s8 g8 => ?_⟩
      have s58 := (s6.trans s7).trans s8
      have s08 := s05.trans s58
      tm_at "rds"
      refine ⟨ba.ks (Same.ks s08), e3, fun pb Hb sb fb gb => ?_⟩
      have lf : (a.kids.filter fun k => isSt "base" k a).length ≤ 1000 := Nat.le_trans (List.length_filter_le _ _) ba.few
      tm_at "rds"
      refine ⟨pb, a.kids.filter fun k => isSt "base" k a, "base", rfl, .inl (sqL gb), fun k m => (ba.ks (Same.ks (s08.trans sb))).kid k ((List.mem_filter.mp m).1), lf, fun p9 us9 H9 s9 f9 g9 i9 => ?_⟩
      have l9 : us9.length ≤ 1000 := by rw [i9.1, allI_len]; exact lf
      have sb9 := sb.trans s9
      refine ⟨p8, p9, _, us9, rfl, rfl, sb9 _ _ g8, g9, by rw [sizeLine_eq]; show 3 + _ ≤ _; omega, fun pa Ha fa sa ga => ?_⟩
      refine k pa _ Ha (s08.trans (sb9.trans sa)) ((s08.trans sb9).free fa) ga ?_
      rw [(tl ([(a.nm, "tall")] ++ allI (a.kids.filter fun k => isSt "base" k a) "base")).mpr (by rw [if_neg e2, if_neg (by rw [et]; decide)]; rfl), ← List.append_assoc]
      exact ((i5.ks (Same.ks (s58.trans (sb9.trans sa)))).app (.cons (.of ((((s7.trans s8).trans sb9).trans sa) _ _ g6)) .nil)).app (i9.ks (Same.ks sa))
end
end My
namespace My
open PySem PySem.Spec PyProof.Rows L2
section
variable {P : Program} {w : World} {K : PySem.W.Frag} {mg : Str → Option Value} {base : Heap}
def sp_add_boxes (bc : Kd → Addr) (S : Addr) (K : PySem.W.Frag) : Nat → Sp
  | 0 => fun _ _ _ _ => False
  | n + 1 => fun vs H Q _ => ∃ (t : At) (h : V) (f : Addr) (acc : List V), vs = [.ref t.x, h, .ref f] ∧ BoxAt bc S K H t ∧ t.depth ≤ n ∧ H f = some (.lst acc) ∧ acc.length + (t.pre h).length ≤ 10000 ∧
    ∀ H' us, KeepS H H' → (∀ b o, b ≠ f → H b = some o → H' b = some o) → H' f = some (.lst (acc ++ us)) → PrsAt H' us (t.pre h) → Q .non H'
theorem okr_add_boxes (T : Tx w K mg) : ∀ n : Nat, FnOk P w K mg base CX0 (n + 2) T.d_add_boxes.f T.d_add_boxes.fd ["box", "holder", "found"] (sp_add_boxes (bcT T) T.c_Style.C K n)
  | 0 => (show FnOk P w K mg base CX0 2 _ _ _ _ from T.d_add_boxes.F.ok (k := 1) (sp := fun _ _ _ _ => False) sc_add_boxes (fun vs H Q E h => h.elim) (fun cdv A outer s H vs Q E hr h => h.elim))
  | n + 1 => by
    have ih := okr_add_boxes T n
    refine T.d_add_boxes.F.ok (k := n + 2) sc_add_boxes (fun vs H Q E h => ?_) (fun cdv A outer s H vs Q E hr h => ?_)
    · obtain ⟨t, h, f, acc, rfl, _⟩ := h
      rfl
    · obtain ⟨t, hv, f, acc, rfl, hb, hd, hf, hl, k⟩ := h
      refine ⟨_, (pss_cons (ps_expr (pe_bm PySem.F.plainAttrs_list PySem.F.slot_list_append PySem.F.type_list_append mt_appendA (pv 2) (pa_cons (pe_tupA (pa_cons (pv 0) (pa_cons (pv 1) pa_nil))) pa_nil)))
      (pss_one (ps_for PassesOwn.never (by rfl) (pi_tupK (K := K) rfl (pe_methK (pv 0) (poly_held_boxes T) (hr.mono (by omega)))) (pg_name (i := 3) sc_add_boxes.nd rfl (Or.inl rfl))
      (pss_one (ps_expr (pe_call ih (hr.mono (Nat.le_refl _)) (by rfl) T.d_add_boxes.g T.d_add_boxes.F.kp T.d_add_boxes.b .nil pass0 (pa_cons (pv 3) (pa_cons (pe_fldK (K := K) rfl (pv 0) rfl) (pa_cons (pv 2) pa_nil))))))))), ?_⟩
      tm_at "rzs"
      intro p1 H1 f1 s1 g1
      refine ⟨f, acc, _, rfl, rfl, s1 _ _ hf, by rw [sizeLine_eq]; omega, fun H2 b2 g2 => ?_⟩
      have K2 : KeepS H H2 := (Same.ks s1).butL b2 (s1 _ _ hf)
      have nf1 : p1 ≠ f := by rintro rfl; rw [hf] at f1; cases f1
      have g12 : H2 p1 = some (.tup [.ref t.x, hv]) := b2 _ _ nf1 g1
      obtain ⟨dx, y, dy, fs, hx, ln, ls, hy, lh, hn, ok⟩ := (hb.ks K2).ob
      tm_at "rzs"
      refine ⟨t.x, t.own.kd, dx, fs, rfl, hx, lh, t, rfl, hb.ks K2, rfl, fun b H3 s3 g3 => ?_⟩
      have K3 : KeepS H H3 := K2.same s3
      have tot := hl
      rw [t.pre_eq, List.length_cons] at tot
      have g23 := s3 _ _ g2
      refine ⟨b, rfl, ⟨_, sqT g3⟩, for_tup (K := K) (a := b) (xs := refs t.kids) (fun i σ H' => ∃ (us : List V) (v3 : Option V), σ = [some (.ref t.x), some hv, some (.ref f), v3] ∧ KeepS H3 H' ∧ (∀ b o, b ≠ f → H3 b = some o → H' b = some o) ∧ H' f = some (.lst (acc ++ [.ref p1] ++ us)) ∧ PrsAt H' us (preL (t.kids.take i) (.str (sO t.nm)))) ⟨[], _, rfl, KeepS.refl, fun _ _ _ e => e, by rw [List.append_nil]; exact g23, PrsAt.nil⟩ (fun i σ H' _ ⟨_, _, _, kk, _⟩ => sqT (kk.tup g3)) ?_ ?_⟩
      · rintro i v σ H4 hv' ⟨us, v3, rfl, kk, bb, gf, pu⟩
        obtain ⟨j, mj, rfl⟩ := of_map hv'
        have K4 := K3.trans kk
        obtain ⟨dx', y', dy', fs', hx', ln', _⟩ := (hb.ks K4).ob
        have hj := hb.kid j (List.mem_of_getElem? mj)
        have dj := depth_kid (List.mem_of_getElem? mj)
        have hd' := hd
        rw [t.depth_eq] at hd'
        dsimp only [gName]
        tm_at "rzs"
        refine ⟨_, _, _, _, _, rfl, hx', (kdT T).cl _, (kdT T).nm _, ln', ?_⟩
        tm_at "rzs"
        have lu := pu.1
        have le := preL_le t.kids (i + 1) (.str (sO t.nm))
        rw [preL_snoc mj, List.length_append] at le
        have jd := j.depth_eq
        cases n with
        | zero => exact absurd hd' (by omega)
        | succ m =>
        tm_at "rzs"
        refine ⟨j, .str (sO t.nm), f, _, rfl, hj.ks K4, by omega, gf, by rw [List.length_append, List.length_append]; show acc.length + 1 + us.length + _ ≤ _; omega, fun H5 ws k5 b5 g5 p5 => ?_⟩
        tm_at "rzs"
        exact ⟨us ++ ws, _, rfl, kk.trans k5, fun b' o nb e => b5 _ _ nb (bb _ _ nb e), by rw [g5, List.append_assoc], by rw [preL_snoc mj]; exact (pu.ks k5).app p5⟩
      · rintro σ H4 ⟨us, v3, rfl, kk, bb, gf, pu⟩
        refine k H4 ([.ref p1] ++ us) (K3.trans kk) (fun b' o nb e => bb _ _ nb (s3 _ _ (b2 _ _ nb (s1 _ _ e)))) (by rw [gf, List.append_assoc]) ?_
        rw [t.pre_eq]
        have hl2 : t.kids.take (refs t.kids).length = t.kids := by unfold refs; rw [List.length_map, List.take_length]
        rw [hl2] at pu
        exact (PrsAt.one (e := (t.x, t.nm, hv)) (kk.tup (s3 _ _ g12))).app pu
theorem ok_add_boxes (T : Tx w K mg) : FnOk P w K mg base CX0 22 T.d_add_boxes.f T.d_add_boxes.fd ["box", "holder", "found"] (sp_add_boxes (bcT T) T.c_Style.C K 20) := okr_add_boxes T 20
end
end My
namespace My
open PySem PySem.Spec PyProof.Rows L2
section
variable {P : Program} {w : World} {K : PySem.W.Frag} {mg : Str → Option Value} {base : Heap}
def sp_told_sizes (bc : Kd → Addr) (S : Addr) (K : PySem.W.Frag) : Sp := fun vs H Q _ => ∃ t : At, vs = [.ref t.x] ∧ BoxAt bc S K H t ∧ ∀ p H', Same H H' → H' p = some (.tup [t.st.getD 0 .non, t.st.getD 1 .non]) → Q (.ref p) H'
theorem ok_told_sizes (T : Tx w K mg) : FnOk P w K mg base CX0 1 T.d_told_sizes.f T.d_told_sizes.fd ["box"] (sp_told_sizes (bcT T) T.c_Style.C K) := by
  refine T.d_told_sizes.F.ok sc_told_sizes (fun vs H Q E h => ?_) (fun cdv A outer s H vs Q E hr h => ?_)
  · obtain ⟨t, rfl, _⟩ := h
    rfl
  · obtain ⟨t, rfl, hb, k⟩ := h
    refine ⟨_, (pss_one (ps_ret (pe_tupA (pa_cons (pe_fldK (K := K) rfl (pe_fldK (K := K) rfl (pv 0) rfl) rfl) (pa_cons (pe_fldK (K := K) rfl (pe_fldK (K := K) rfl (pv 0) rfl) rfl) pa_nil))))), ?_⟩
    obtain ⟨dx, y, dy, fs, hx, ln, ls, hy, _, hn, ok⟩ := hb.ob
    obtain ⟨w, h', lw, lh, mw, mh, g, s', r, q, e⟩ := ten ok.1
    rw [e] at hy k
    tm_at "rzs"
    refine ⟨_, _, _, _, _, rfl, hx, (kdT T).cl _, (kdT T).sy _, ls, ?_⟩
    tm_at "rzs"
    refine ⟨_, _, _, _, _, rfl, hy, T.c_Style.cls, T.n_Style_wide, rfl, ?_⟩
    tm_at "rzs"
    refine ⟨_, _, _, _, _, rfl, hx, (kdT T).cl _, (kdT T).sy _, ls, ?_⟩
    tm_at "rzs"
    refine ⟨_, _, _, _, _, rfl, hy, T.c_Style.cls, T.n_Style_high, rfl, ?_⟩
    tm_at "rzs"
    intro p H1 f1 s1 g1
    exact k p H1 s1 g1
end
end My
namespace My
open PySem PySem.Spec PyProof.Rows L2
section
variable {P : Program} {w : World} {K : PySem.W.Frag} {mg : Str → Option Value} {base : Heap}
def sp_Nest_init (bc : Kd → Addr) (S C : Addr) (K : PySem.W.Frag) : Sp := fun vs H Q _ => ∃ (x dx : Addr) (t : At), vs = [.ref x, .ref t.x] ∧ H x = some (.ins C dx []) ∧ BoxAt bc S K H t ∧ t.depth ≤ 19 ∧ (t.pre .non).length ≤ 5000 ∧ TreeOk H t ∧
  ∀ H', But x H H' → NestAt C H' x t → Q .non H'
theorem ok_Nest_init (T : Tx w K mg) : FnOk P w K mg base CX0 23 T.d_Nest_init.f T.d_Nest_init.fd ["self", "tree"] (sp_Nest_init (bcT T) T.c_Style.C T.c_Nest.C K) := by
  refine T.d_Nest_init.F.ok sc_Nest_init (fun vs H Q E h => ?_) (fun cdv A outer s H vs Q E hr h => ?_)
  · obtain ⟨x, dx, t, rfl, _⟩ := h
    rfl
  · obtain ⟨x, dx, t, rfl, hx, hb, hd, hl, hok, k⟩ := h
    refine ⟨_, (pss_cons (ps_if (pt_not (pt_val (pe_callB (call_isiK (K := K) rfl) (by rfl) T.b_isinstance (by decide +kernel) (pa_cons (pv 1) (pa_cons (pe_glob (v := .ref T.c_Box.C) (by rfl) T.c_Box.g rfl) pa_nil)))))
      (pss_one ps_never)
      pss_nil)
      (pss_cons (ps_set (i := 2) sc_Nest_init.nd rfl (Or.inl rfl) (pe_lstA pa_nil))
      (pss_cons (ps_expr (pe_call (ok_add_boxes T) (hr.mono (by decide)) (by rfl) T.d_add_boxes.g T.d_add_boxes.F.kp T.d_add_boxes.b .nil pass0 (pa_cons (pv 1) (pa_cons pe_non (pa_cons (pv 2) pa_nil)))))
      (pss_cons (ps_fld (pv 0) (pe_lc (own := [("box", 3), ("holder", 4)]) (g := gTup K 2 (gCons (gName 3) (gCons (gName 4) gNil))) (by rfl) sc_Nest_init.nd (pi_listK (K := K) rfl (pv 2)) (blkOk_by (own := [("box", 3), ("holder", 4)]) (N := N_Nest_init) (sc := defScope s_Nest_init) (by decide +kernel)) (fun _ _ _ _ _ => (pg_tup (by rfl) (pgs_cons (pg_name (i := 3) sc_Nest_init.nd rfl (Or.inl rfl)) (pgs_cons (pg_name (i := 4) sc_Nest_init.nd rfl (Or.inl rfl)) pgs_nil)))) (fun _ _ _ _ _ => pts_nil) (fun _ _ _ _ _ => (pe_fldK (K := K) rfl (pv 3) rfl))) rfl)
      (pss_cons (ps_fld (pv 0) (pe_dc (own := [("box", 3), ("holder", 4)]) (g := gTup K 2 (gCons (gName 3) (gCons (gName 4) gNil))) (by rfl) sc_Nest_init.nd (pi_listK (K := K) rfl (pv 2)) (blkOk_by (own := [("box", 3), ("holder", 4)]) (N := N_Nest_init) (sc := defScope s_Nest_init) (by decide +kernel)) (fun _ _ _ _ _ => (pg_tup (by rfl) (pgs_cons (pg_name (i := 3) sc_Nest_init.nd rfl (Or.inl rfl)) (pgs_cons (pg_name (i := 4) sc_Nest_init.nd rfl (Or.inl rfl)) pgs_nil)))) (fun _ _ _ _ _ => pts_nil) (fun _ _ _ _ _ => (pe_fldK (K := K) rfl (pv 3) rfl)) (fun _ _ _ _ _ => (pv 3))) rfl)
      (pss_cons (ps_fld (pv 0) (pe_dc (own := [("box", 3), ("holder", 4)]) (g := gTup K 2 (gCons (gName 3) (gCons (gName 4) gNil))) (by rfl) sc_Nest_init.nd (pi_listK (K := K) rfl (pv 2)) (blkOk_by (own := [("box", 3), ("holder", 4)]) (N := N_Nest_init) (sc := defScope s_Nest_init) (by decide +kernel)) (fun _ _ _ _ _ => (pg_tup (by rfl) (pgs_cons (pg_name (i := 3) sc_Nest_init.nd rfl (Or.inl rfl)) (pgs_cons (pg_name (i := 4) sc_Nest_init.nd rfl (Or.inl rfl)) pgs_nil)))) (fun _ _ _ _ _ => pts_nil) (fun _ _ _ _ _ => (pe_fldK (K := K) rfl (pv 3) rfl)) (fun _ _ _ _ _ => (pv 4))) rfl)
      (pss_cons (ps_if (pt_cmpR op_lt (pe_callB call_lenD (by rfl) T.b_len (by decide +kernel) (pa_cons (pe_fldK (K := K) rfl (pv 0) rfl) pa_nil)) (pe_callB (call_lenK (K := K) rfl) (by rfl) T.b_len (by decide +kernel) (pa_cons (pv 2) pa_nil)) (nomark _))
      (pss_one ps_never)
      pss_nil)
      (pss_cons (ps_for PassesOwn.never (by rfl) (pi_listK (K := K) rfl (pv 2)) (pg_tup (by rfl) (pgs_cons (pg_name (i := 3) sc_Nest_init.nd rfl (Or.inl rfl)) (pgs_cons (pg_name (i := 4) sc_Nest_init.nd rfl (Or.inl rfl)) pgs_nil)))
      (pss_one (ps_for PassesOwn.never (by rfl) (pi_tupK (K := K) rfl (pe_call (ok_told_sizes T) (hr.mono (by decide)) (by rfl) T.d_told_sizes.g T.d_told_sizes.F.kp T.d_told_sizes.b .nil pass0 (pa_cons (pv 3) pa_nil))) (pg_name (i := 5) sc_Nest_init.nd rfl (Or.inl rfl))
      (pss_one (ps_if (PW.pt (pw_and (pt_val (pe_call (ok_is_tie T) (hr.mono (by decide)) (by rfl) T.d_is_tie.g T.d_is_tie.F.kp T.d_is_tie.b .nil pass0 (pa_cons (pv 5) pa_nil))) (pw_and1 (pt_cmp (pc_dnotin (hu_of hr) (pe_ix (ix_tupK (K := K) rfl) (pv 5) pe_int (fun _ _ => rfl)) (pe_fldK (K := K) rfl (pv 0) rfl))))))
      (pss_one ps_never)
      pss_nil)))))
      (pss_one (ps_if (pt_val (pe_callB (cr_anyK (K := K) rfl rfl) (by rfl) T.b_any (by decide +kernel) (pa_cons (pe_lc (own := [("size", 5)]) (g := gName 5) (by rfl) sc_Nest_init.nd (pi_tupK (K := K) rfl (pe_call (ok_told_sizes T) (hr.mono (by decide)) (by rfl) T.d_told_sizes.g T.d_told_sizes.F.kp T.d_told_sizes.b .nil pass0 (pa_cons (pv 1) pa_nil))) (blkOk_by (own := [("size", 5)]) (N := N_Nest_init) (sc := defScope s_Nest_init) (by decide +kernel)) (fun _ _ _ _ _ => (pg_name (i := 5) sc_Nest_init.nd rfl (Or.inl rfl))) (fun _ _ _ _ _ => pts_nil) (fun _ _ _ _ _ => (pe_call (ok_is_part T) (hr.mono (by decide)) (by rfl) T.d_is_part.g T.d_is_part.F.kp T.d_is_part.b .nil pass0 (pa_cons (pv 5) pa_nil)))) pa_nil)))
      (pss_one ps_never)
      pss_nil)))))))))), ?_⟩
    tm_at "rzs"
    refine ⟨_, _, _, _, true, rfl, .own _, hb.tyx (kdT T), (kdT T).box _, ?_⟩
    tm_at "rzs"
    intro f H1 f1 s1 g1
    have nfx : f ≠ x := ne_of_none hx f1 |>.symm
    dsimp only [gName]
    tm_at "rzs"
    refine ⟨t, .non, f, [], rfl, hb.ks (Same.ks s1), hd, g1, by show 0 + _ ≤ _; omega, fun H2 us k2 b2 g2 p2 => ?_⟩
    have K2 : KeepS H H2 := (Same.ks s1).trans k2
    have hx2 := b2 _ _ nfx.symm (s1 _ _ hx)
    rw [List.nil_append] at g2
    dsimp only [gName]
    tm_at "rzs"
    generalize hes : t.pre .non = es at *
    have lus : us.length = es.length := p2.1
    have hbx : ∀ H', KeepS H H' → ∀ e ∈ es, ∃ b : At, BoxAt (bcT T) T.c_Style.C K H' b ∧ b.x = e.1 ∧ b.nm = e.2.1 ∧ b ∈ t.all := fun H' kk e m => by
      rw [← hes] at m
      exact pre_box (hb.ks kk) .non e m
    refine ⟨⟨_, sqL g2⟩, fun D hD => lcLx (K := K) (xs := us) (fun i => (nms es).getD i .non) hD (sqL g2) (by omega) (fun i v H3 Kt Kf hv s3 kt => ?_) (fun H3 s3 g3 => ?_)⟩
    · obtain ⟨e, he⟩ : ∃ e, es[i]? = some e := ⟨_, List.getElem?_eq_getElem (by rw [← lus]; exact (List.getElem?_eq_some_iff.mp hv).1)⟩
      obtain ⟨p, rfl, gp⟩ := p2.2 i v e hv he
      obtain ⟨b, hb3, e1, e2, _⟩ := hbx H3 (K2.same s3) e (List.mem_of_getElem? he)
      obtain ⟨dx', y', dy', fs', hx', ln', _⟩ := hb3.ob
      rw [e1] at hx'
      rw [e2] at ln'
      refine ⟨p, _, rfl, sqT (s3 _ _ gp), rfl, ?_⟩
      tm_at "rzs"
      refine ⟨_, _, _, _, _, rfl, hx', (kdT T).cl _, (kdT T).nm _, ln', ?_⟩
      rw [nms_at he] at kt
      exact kt _ (Same.refl _)
    rw [range_nms es lus] at g3
    tm_at "rzs"
    refine ⟨x, _, dx, _, rfl, s3 _ _ hx2, T.c_Nest.cls, T.n_Nest_order, Nat.lt_of_succ_le (Nat.le_of_ble_eq_true rfl), ?_⟩
    refine upd_gen fun H4 b4 g4 => ?_
    tm_at "rzs"
    have nd := hok.nd
    rw [hes] at nd
    have K4 : KeepS H H4 := (K2.same s3).butX b4 hx
    have gf4 : H4 f = some (.lst us) := b4 _ _ nfx (s3 _ _ g2)
    have p4 : PrsAt H4 us es := (p2.ks (Same.ks s3)).ks (KeepS.butE b4 (s3 _ _ hx2))
    have gD4 : H4 D = some (.lst (nms es)) := b4 _ _ (ne_of_none hx2 hD |>.symm) g3
    refine ⟨⟨_, sqL gf4⟩, fun D1 hD1 => dcL (K := K) (xs := us) (fun i H' => Same H4 H' ∧ H' D1 = some (.dK (bxs (es.take i)))) ⟨Same.upd0 hD1, upd_same⟩ (fun i H' _ p => sqL (p.1 _ _ gf4)) (fun i v H' hv p => ?_) (fun H5 p5 => ?_)⟩
    · obtain ⟨s5, g5⟩ := p
      obtain ⟨e, he⟩ : ∃ e, es[i]? = some e := ⟨_, List.getElem?_eq_getElem (by rw [← lus]; exact (List.getElem?_eq_some_iff.mp hv).1)⟩
      obtain ⟨p, rfl, gp⟩ := p4.2 i v e hv he
      obtain ⟨b, hb3, e1, e2, _⟩ := hbx H' (K4.same s5) e (List.mem_of_getElem? he)
      obtain ⟨dx', y', dy', fs', hx', ln', _⟩ := hb3.ob
      rw [e1] at hx'
      rw [e2] at ln'
      refine ⟨p, _, rfl, sqT (s5 _ _ gp), rfl, ?_⟩
      tm_at "rzs"
      refine ⟨_, _, _, _, _, rfl, hx', (kdT T).cl _, (kdT T).nm _, ln', ?_⟩
      tm_at "rzs"
      refine ⟨_, keyS e.2.1, rfl, g5, by unfold bxs; rw [List.length_map, List.length_take, sizeLine_eq]; omega, Same.mut s5 hD1, ?_⟩
      rw [upd_same]
      unfold bxs
      rw [put_take (f := fun e => .ref e.1) nd he]
    obtain ⟨s5, g5⟩ := p5
    rw [lus, List.take_length] at g5
    tm_at "rzs"
    refine ⟨x, _, dx, _, rfl, s5 _ _ g4, T.c_Nest.cls, T.n_Nest_box_by, Nat.lt_of_succ_le (Nat.le_of_ble_eq_true rfl), ?_⟩
    refine upd_gen fun H6 b6 g6 => ?_
    have K6 : KeepS H H6 := (K4.same s5).butX b6 hx
    have gf6 : H6 f = some (.lst us) := b6 _ _ nfx (s5 _ _ gf4)
    have gD6 : H6 D = some (.lst (nms es)) := b6 _ _ (ne_of_none hx2 hD |>.symm) (s5 _ _ gD4)
    have n1x : D1 ≠ x := (ne_of_none g4 hD1).symm
    have g16 : H6 D1 = some (.dK (bxs es)) := b6 _ _ n1x g5
    have p6 : PrsAt H6 us es := ⟨lus, fun i v e a b => by
      obtain ⟨p, q, g⟩ := p4.2 i v e a b
      exact ⟨p, q, b6 _ _ (by rintro rfl; rw [g4] at g; cases g) (s5 _ _ g)⟩⟩
    tm_at "rzs"
    refine ⟨⟨_, sqL gf6⟩, fun D2 hD2 => dcL (K := K) (xs := us) (fun i H' => Same H6 H' ∧ H' D2 = some (.dK (hds (es.take i)))) ⟨Same.upd0 hD2, upd_same⟩ (fun i H' _ p => sqL (p.1 _ _ gf6)) (fun i v H' hv p => ?_) (fun H7 p7 => ?_)⟩
    · obtain ⟨s7, g7⟩ := p
      obtain ⟨e, he⟩ : ∃ e, es[i]? = some e := ⟨_, List.getElem?_eq_getElem (by rw [← lus]; exact (List.getElem?_eq_some_iff.mp hv).1)⟩
      obtain ⟨p, rfl, gp⟩ := p6.2 i v e hv he
      obtain ⟨b, hb3, e1, e2, _⟩ := hbx H' (K6.same s7) e (List.mem_of_getElem? he)
      obtain ⟨dx', y', dy', fs', hx', ln', _⟩ := hb3.ob
      rw [e1] at hx'
      rw [e2] at ln'
      refine ⟨p, _, rfl, sqT (s7 _ _ gp), rfl, ?_⟩
      tm_at "rzs"
      refine ⟨_, _, _, _, _, rfl, hx', (kdT T).cl _, (kdT T).nm _, ln', ?_⟩
      tm_at "rzs"
      refine ⟨_, keyS e.2.1, rfl, g7, by unfold hds; rw [List.length_map, List.length_take, sizeLine_eq]; omega, Same.mut s7 hD2, ?_⟩
      rw [upd_same]
      unfold hds
      rw [put_take (f := fun e => e.2.2) nd he]
    obtain ⟨s7, g7⟩ := p7
    rw [lus, List.take_length] at g7
    tm_at "rzs"
    refine ⟨x, _, dx, _, rfl, s7 _ _ g6, T.c_Nest.cls, T.n_Nest_holder_by, Nat.lt_of_succ_le (Nat.le_of_ble_eq_true rfl), ?_⟩
    refine upd_gen fun H8 b8 g8 => ?_
    have K8 : KeepS H H8 := (K6.same s7).butX b8 hx
    have gf8 : H8 f = some (.lst us) := b8 _ _ nfx (s7 _ _ gf6)
    have gD8 : H8 D = some (.lst (nms es)) := b8 _ _ (ne_of_none hx2 hD |>.symm) (s7 _ _ gD6)
    have n2x : D2 ≠ x := (ne_of_none g6 hD2).symm
    have g18 : H8 D1 = some (.dK (bxs es)) := b8 _ _ n1x (s7 _ _ g16)
    have g28 : H8 D2 = some (.dK (hds es)) := b8 _ _ n2x g7
    have p8 : PrsAt H8 us es := ⟨lus, fun i v e a b => by
      obtain ⟨p, q, g⟩ := p6.2 i v e a b
      exact ⟨p, q, b8 _ _ (by rintro rfl; rw [g6] at g; cases g) (s7 _ _ g)⟩⟩
    tm_at "rzs"
    refine ⟨_, _, _, _, _, rfl, g8, T.c_Nest.cls, T.n_Nest_box_by, rfl, ?_⟩
    tm_at "rzs"
    refine iteF' (decide_eq_false (by unfold bxs; rw [List.length_map]; omega)) ?_
    have big : us.length ≤ 100000 := by omega
    refine seq_key (M := fun σ H' => ∃ v3 v4 v5 : Option V, σ = [some (.ref x), some (.ref t.x), some (.ref f), v3, v4, v5] ∧ H' = H8) ?_ (fun NN hNN => ?_)
    rotate_left
    · exact hNN _ _ ⟨_, _, _, rfl, rfl⟩
    rintro σ H8 ⟨v3, v4, v5, rfl, rfl⟩
    refine seq_key (M := fun σ H' => ∃ v3 v4 v5 : Option V, σ = [some (.ref x), some (.ref t.x), some (.ref f), v3, v4, v5] ∧ Same H8 H') ?_ (fun NN hNN => ?_)
    rotate_left
    · tm_at "rzs"
      refine ⟨⟨_, sqL gf8⟩, for_list (K := K) (a := f) (xs := us) (fun i σ H' => ∃ v3 v4 v5 : Option V, σ = [some (.ref x), some (.ref t.x), some (.ref f), v3, v4, v5] ∧ Same H8 H') ⟨_, _, _, rfl, Same.refl _⟩ (fun i σ H' _ ⟨_, _, _, _, s⟩ => sqL (s _ _ gf8)) ?_ ?_⟩
      · rintro i v σ H9 hv ⟨v3, v4, v5, rfl, s9⟩
        obtain ⟨e, he⟩ : ∃ e, es[i]? = some e := ⟨_, List.getElem?_eq_getElem (by rw [← lus]; exact (List.getElem?_eq_some_iff.mp hv).1)⟩
        obtain ⟨p, rfl, gp⟩ := p8.2 i v e hv he
        refine ⟨p, _, rfl, sqT (s9 _ _ gp), rfl, ?_⟩
        obtain ⟨b, hbH, e1, e2, mb⟩ := hbx H KeepS.refl e (List.mem_of_getElem? he)
        have hb9 := hbH.ks (K8.same s9)
        tm_at "rzs"
        refine ⟨b, by rw [e1]; rfl, hb9, fun q H10 s10 g10 => ?_⟩
        have s810 := s9.trans s10
        obtain ⟨_, _, _, _, _, _, _, _, _, _, okb⟩ := hbH.ob
        obtain ⟨T0, T1⟩ := hok.ties b mb
        rw [hes] at T0 T1
        refine ⟨q, rfl, ⟨_, sqT g10⟩, for_tup (K := K) (a := q) (xs := [b.st.getD 0 .non, b.st.getD 1 .non]) (fun j σ H' => ∃ v5 : Option V, σ = [some (.ref x), some (.ref t.x), some (.ref f), some (.ref e.1), some e.2.2, v5] ∧ Same H10 H') ⟨_, rfl, Same.refl _⟩ (fun j σ H' _ ⟨_, _, sp⟩ => sqT (sp _ _ g10)) ?_ ?_⟩
        · rintro j z σ H11 hz ⟨v5, rfl, s11⟩
          obtain ⟨hsz, htie⟩ : SzAt H z ∧ TieOk (es.map (·.2.1)) H z := by
            obtain ⟨w0, w1, w2, w3, w4, w5, w6, w7, w8, w9, eb⟩ := ten okb.1
            rw [eb] at hz T0 T1 okb
            match j, hz with
            | 0, hz => cases hz; exact ⟨okb.2 0 _ rfl, T0⟩
            | 1, hz => cases hz; exact ⟨okb.2 1 _ rfl, T1⟩
            | n + 2, hz => cases hz
          have K11 : KeepS H H11 := K8.same (s810.trans s11)
          have g811 := s11 _ _ (s810 _ _ g8)
          have g111 := s11 _ _ (s810 _ _ g18)
          cases hsz with
          | non =>
            dsimp only [gName]
            tm_at "rds"
            refine .inl ⟨_, .non, by decide, ?_⟩
            tm_at "rzs"
            exact s11
          | cells n =>
            dsimp only [gName]
            tm_at "rds"
            refine .inl ⟨_, .int _, by decide, ?_⟩
            tm_at "rzs"
            exact s11
          | part a n h =>
            dsimp only [gName]
            tm_at "rds"
            refine .inr ⟨a, _, rfl, K11.tup h, ?_⟩
            tm_at "rzs"
            exact s11
          | tie a l sd m hl hs h =>
            have ha11 := K11.tup h
            dsimp only [gName]
            tm_at "rds"
            refine .inr ⟨a, _, rfl, ha11, ?_⟩
            tm_at "rzs"
            refine ⟨_, _, _, _, _, rfl, g811, T.c_Nest.cls, T.n_Nest_box_by, rfl, ?_⟩
            obtain ⟨e', me', el⟩ := List.mem_map.mp (htie a l _ _ _ rfl h)
            have va := val_at (f := fun e => V.ref e.1) nd me'
            rw [el] at va
            refine ⟨D1, _, rfl, .inl ⟨bxs es, keyS l, .inl g111, rfl, va.symm⟩, ?_⟩
            tm_at "rzs"
            exact s11
        · rintro σ H11 ⟨v5, rfl, s11⟩
          exact ⟨_, _, _, rfl, s810.trans s11⟩
      · rintro σ H9 ⟨v3, v4, v5, rfl, s9⟩
        exact hNN _ _ ⟨_, _, _, rfl, s9⟩
    rintro σ H9 ⟨v3, v4, v5, rfl, s9⟩
    tm_at "rzs"
    refine ⟨hb.ks (K8.same s9), fun q H10 s10 g10 => ?_⟩
    have s810 := s9.trans s10
    have K10 : KeepS H H10 := K8.same s810
    obtain ⟨_, _, _, _, _, _, _, _, _, _, okt⟩ := hb.ob
    tm_at "rzs"
    refine ⟨⟨_, sqT g10⟩, fun D3 hD3 => lcTx (K := K) (xs := [t.st.getD 0 .non, t.st.getD 1 .non]) (fun _ => V.bl false) hD3 (sqT g10) (Nat.le_of_ble_eq_true rfl) (fun j z H11 Kt Kf hz s11 kt => ?_) (fun H11 s11 g11 => ?_)⟩
    · obtain ⟨hsz, hrt⟩ : SzAt H z ∧ ∀ a xs, z = .ref a → H a = some (.tup xs) → xs.length ≠ 2 := by
        have R0 := fun a xs => hok.root 0 a xs (by decide)
        have R1 := fun a xs => hok.root 1 a xs (by decide)
        obtain ⟨w0, w1, w2, w3, w4, w5, w6, w7, w8, w9, eb⟩ := ten okt.1
        rw [eb] at hz okt R0 R1
        match j, hz with
        | 0, hz => cases hz; exact ⟨okt.2 0 _ rfl, R0⟩
        | 1, hz => cases hz; exact ⟨okt.2 1 _ rfl, R1⟩
        | n + 2, hz => cases hz
      have K11 : KeepS H H11 := K10.same s11
      cases hsz with
      | non =>
        tm_at "rds"
        refine .inl ⟨_, .non, by decide, ?_⟩
        exact kt _ (Same.refl _)
      | cells n =>
        tm_at "rds"
        refine .inl ⟨_, .int _, by decide, ?_⟩
        exact kt _ (Same.refl _)
      | part a n h => exact absurd rfl (hrt a _ rfl h)
      | tie a l sd m hl hs h =>
        tm_at "rds"
        refine .inr ⟨a, _, rfl, K11.tup h, ?_⟩
        exact kt _ (Same.refl _)
    have g11 : H11 D3 = some (.lst (([false, false] : List Bool).map V.bl)) := g11
    tm_at "rzs"
    refine ⟨D3, _, rfl, sqL g11, ?_⟩
    tm_at "rzs"
    have s811 := s810.trans s11
    have Bx : But x H H8 := fun b o n e => b8 _ _ n (s7 _ _ (b6 _ _ n (s5 _ _ (b4 _ _ n (s3 _ _ (b2 _ _ (ne_of_none e f1) (s1 _ _ e)))))))
    refine k H11 (Bx.trans (Same.but s811)) ⟨dx, D, D1, D2, s811 _ _ g8, ?_, ?_, ?_⟩
    · rw [hes]; exact s811 _ _ gD8
    · rw [hes]; exact s811 _ _ g18
    · rw [hes]; exact s811 _ _ g28
end
end My
namespace My
open PySem PySem.Spec PyProof.Rows L2
section
variable {P : Program} {w : World} {K : PySem.W.Frag} {mg : Str → Option Value} {base : Heap}
def sp_Nest_named (C : Addr) : Sp := fun vs H Q _ => ∃ (x : Addr) (t : At) (e : Addr × List Nat × V), vs = [.ref x, .str (sO e.2.1)] ∧ NestAt C H x t ∧ ((t.pre .non).map (·.2.1)).Nodup ∧ e ∈ t.pre .non ∧ Q (.ref e.1) H
theorem ok_Nest_named (T : Tx w K mg) : FnOk P w K mg base CX0 1 T.d_Nest_named.f T.d_Nest_named.fd ["self", "name"] (sp_Nest_named T.c_Nest.C) := by
  refine T.d_Nest_named.F.ok sc_Nest_named (fun vs H Q E h => ?_) (fun cdv A outer s H vs Q E hr h => ?_)
  · obtain ⟨x, t, e, rfl, _⟩ := h
    rfl
  · obtain ⟨x, t, e, rfl, hN, nd, me, k⟩ := h
    obtain ⟨dx, o, d1, d2, hx, ho, h1, h2⟩ := hN
    refine ⟨_, (pss_cons (ps_if (PW.pt (pw_or (pt_not (pt_val (pe_callB is_str (by rfl) T.b_isinstance (by decide +kernel) (pa_cons (pv 1) (pa_cons (pe_bltn (v := .ty "str") (by rfl) T.b_str (by decide +kernel) rfl) pa_nil))))) (pw_or1 (pt_cmp (pc_dnotin (hu_of hr) (pv 1) (pe_fldK (K := K) rfl (pv 0) rfl))))))
      (pss_one ps_never)
      pss_nil)
      (pss_one (ps_ret (pe_dget (hu_of hr) (pe_fldK (K := K) rfl (pv 0) rfl) (pv 1) (fun _ _ => rfl))))), ?_⟩
    have va := val_at (f := fun e => V.ref e.1) nd me
    tm_at "rzs"
    refine ⟨_, _, _, _, _, rfl, hx, T.c_Nest.cls, T.n_Nest_box_by, rfl, ?_⟩
    refine ⟨d1, _, rfl, .inl ⟨bxs (t.pre .non), keyS e.2.1, .inl h1, rfl, va.symm⟩, ?_⟩
    tm_at "rzs"
    refine ⟨_, _, _, _, _, rfl, hx, T.c_Nest.cls, T.n_Nest_box_by, rfl, ?_⟩
    tm_at "rzs"
    refine ⟨d1, _, rfl, .inl ⟨bxs (t.pre .non), keyS e.2.1, .inl h1, rfl, va.symm⟩, ?_⟩
    exact k
end
end My
namespace My
open PySem PySem.Spec PyProof.Rows L2
section
variable {P : Program} {w : World} {K : PySem.W.Frag} {mg : Str → Option Value} {base : Heap}
def sp_framed : Sp := fun vs H Q _ => ∃ (wd : Int) (hv : V), vs = [.int wd, hv] ∧ 0 ≤ wd ∧ (hv = .non ∨ ∃ n : Int, hv = .int n ∧ 0 ≤ n) ∧ ∀ p H', Same H H' → H' p = some (.tup [.int wd, hv]) → Q (.ref p) H'
theorem ok_framed (T : Tx w K mg) : FnOk P w K mg base CX0 3 T.d_framed.f T.d_framed.fd ["wide", "high"] (sp_framed) := by
  refine T.d_framed.F.ok sc_framed (fun vs H Q E h => ?_) (fun cdv A outer s H vs Q E hr h => ?_)
  · obtain ⟨wd, hv, rfl, _⟩ := h
    rfl
  · obtain ⟨wd, hv, rfl, w0, hh, k⟩ := h
    refine ⟨_, (pss_cons (ps_if (PW.pt (pw_or (pt_not (pt_val (pe_call (ok_is_count T) (hr.mono (by decide)) (by rfl) T.d_is_count.g T.d_is_count.F.kp T.d_is_count.b .nil pass0 (pa_cons (pv 0) pa_nil)))) (pw_or1 (PW.pt (pw_and (pt_cmpR op_notN (pv 1) pe_non (nomark _)) (pw_and1 (pt_not (pt_val (pe_call (ok_is_count T) (hr.mono (by decide)) (by rfl) T.d_is_count.g T.d_is_count.F.kp T.d_is_count.b .nil pass0 (pa_cons (pv 1) pa_nil))))))))))
      (pss_one ps_never)
      pss_nil)
      (pss_one (ps_ret (pe_tupA (pa_cons (pv 0) (pa_cons (pv 1) pa_nil)))))), ?_⟩
    have iN : ∀ n : Int, 0 ≤ n → isN (.int n) = true := fun n h => by unfold isN; exact decide_eq_true h
    rcases hh with rfl | ⟨n, rfl, n0⟩
    · tm_at "rzs"
      rw [iN wd w0]
      tm_at "rzs"
      intro p H1 f1 s1 g1
      exact k p H1 s1 g1
    · tm_at "rzs"
      rw [iN wd w0]
      tm_at "rzs"
      rw [iN n n0]
      tm_at "rzs"
      intro p H1 f1 s1 g1
      exact k p H1 s1 g1
end
end My
namespace My
open PySem PySem.Spec PyProof.Rows L2
section
variable {P : Program} {w : World} {K : PySem.W.Frag} {mg : Str → Option Value} {base : Heap}
def sp_looked_word : Sp := fun vs H Q _ => ∃ t : String, vs = [sX t] ∧ t ∈ ["least", "wish", "wide", "flow", "rise", "tall", "base", "left", "top"] ∧ Q .non H
theorem ok_looked_word (T : Tx w K mg) : FnOk P w K mg base CX0 1 T.d_looked_word.f T.d_looked_word.fd ["word"] (sp_looked_word) := by
  refine T.d_looked_word.F.ok sc_looked_word (fun vs H Q E h => ?_) (fun cdv A outer s H vs Q E hr h => ?_)
  · obtain ⟨t, rfl, _⟩ := h
    rfl
  · obtain ⟨t, rfl, ht, k⟩ := h
    refine ⟨_, (pss_one (ps_if (PW.pt (pw_or (pt_not (pt_val (pe_callB is_str (by rfl) T.b_isinstance (by decide +kernel) (pa_cons (pv 0) (pa_cons (pe_bltn (v := .ty "str") (by rfl) T.b_str (by decide +kernel) rfl) pa_nil))))) (pw_or1 (pt_cmpR (op_notInK (K := K) rfl) (pv 0) (pe_glob (v := .ref T.U_WORDS) (by rfl) T.v_WORDS rfl) (by rfl)))))
      (pss_one ps_never)
      pss_nil)), ?_⟩
    have hin : inV (sX t) [.str (Str.ofString "least"), .str (Str.ofString "wish"), .str (Str.ofString "wide"), .str (Str.ofString "flow"), .str (Str.ofString "rise"), .str (Str.ofString "tall"), .str (Str.ofString "base"), .str (Str.ofString "left"), .str (Str.ofString "top")] = true := by
      simp only [List.mem_cons, List.not_mem_nil, or_false] at ht
      rcases ht with rfl | rfl | rfl | rfl | rfl | rfl | rfl | rfl | rfl <;> decide +kernel
    tm_at "rzs"
    refine ⟨_, _, rfl, .inr (T.t_WORDS _), rfl, rfl, ?_⟩
    rw [if_pos rfl, hin]
    tm_at "rzs"
    exact k
end
end My
namespace My
open PySem PySem.Spec PyProof.Rows L2
section
variable {P : Program} {w : World} {K : PySem.W.Frag} {mg : Str → Option Value} {base : Heap}
def S_need {w : World} (T : Tx w K mg) : Addr → Option Sp := fun a => if a = T.d_least_needs.f then some (sp_need "least" (bcT T) T.c_Style.C T.c_Nest.C K) else if a = T.d_wish_needs.f then some (sp_need "wish" (bcT T) T.c_Style.C T.c_Nest.C K) else if a = T.d_wide_needs.f then some (sp_need "wide" (bcT T) T.c_Style.C T.c_Nest.C K) else if a = T.d_flow_needs.f then some (sp_need "flow" (bcT T) T.c_Style.C T.c_Nest.C K) else if a = T.d_rise_needs.f then some (sp_need "rise" (bcT T) T.c_Style.C T.c_Nest.C K) else if a = T.d_tall_needs.f then some (sp_need "tall" (bcT T) T.c_Style.C T.c_Nest.C K) else if a = T.d_base_needs.f then some (sp_need "base" (bcT T) T.c_Style.C T.c_Nest.C K) else if a = T.d_left_needs.f then some (sp_need "left" (bcT T) T.c_Style.C T.c_Nest.C K) else if a = T.d_top_needs.f then some (sp_need "top" (bcT T) T.c_Style.C T.c_Nest.C K) else none
theorem S_need_least (T : Tx w K mg) : S_need T T.d_least_needs.f = some (sp_need "least" (bcT T) T.c_Style.C T.c_Nest.C K) := by unfold S_need; rw [if_pos rfl]
theorem S_need_wish (T : Tx w K mg) : S_need T T.d_wish_needs.f = some (sp_need "wish" (bcT T) T.c_Style.C T.c_Nest.C K) := by unfold S_need; rw [if_neg (fun_ne T.d_wish_needs.F T.d_least_needs.F (by decide)), if_pos rfl]
theorem S_need_wide (T : Tx w K mg) : S_need T T.d_wide_needs.f = some (sp_need "wide" (bcT T) T.c_Style.C T.c_Nest.C K) := by unfold S_need; rw [if_neg (fun_ne T.d_wide_needs.F T.d_least_needs.F (by decide)), if_neg (fun_ne T.d_wide_needs.F T.d_wish_needs.F (by decide)), if_pos rfl]
theorem S_need_flow (T : Tx w K mg) : S_need T T.d_flow_needs.f = some (sp_need "flow" (bcT T) T.c_Style.C T.c_Nest.C K) := by unfold S_need; rw [if_neg (fun_ne T.d_flow_needs.F T.d_least_needs.F (by decide)), if_neg (fun_ne T.d_flow_needs.F T.d_wish_needs.F (by decide)), if_neg (fun_ne T.d_flow_needs.F T.d_wide_needs.F (by decide)), if_pos rfl]
theorem S_need_rise (T : Tx w K mg) : S_need T T.d_rise_needs.f = some (sp_need "rise" (bcT T) T.c_Style.C T.c_Nest.C K) := by unfold S_need; rw [if_neg (fun_ne T.d_rise_needs.F T.d_least_needs.F (by decide)), if_neg (fun_ne T.d_rise_needs.F T.d_wish_needs.F (by decide)), if_neg (fun_ne T.d_rise_needs.F T.d_wide_needs.F (by decide)), if_neg (fun_ne T.d_rise_needs.F T.d_flow_needs.F (by decide)), if_pos rfl]
theorem S_need_tall (T : Tx w K mg) : S_need T T.d_tall_needs.f = some (sp_need "tall" (bcT T) T.c_Style.C T.c_Nest.C K) := by unfold S_need; rw [if_neg (fun_ne T.d_tall_needs.F T.d_least_needs.F (by decide)), if_neg (fun_ne T.d_tall_needs.F T.d_wish_needs.F (by decide)), if_neg (fun_ne T.d_tall_needs.F T.d_wide_needs.F (by decide)), if_neg (fun_ne T.d_tall_needs.F T.d_flow_needs.F (by decide)), if_neg (fun_ne T.d_tall_needs.F T.d_rise_needs.F (by decide)), if_pos rfl]
theorem S_need_base (T : Tx w K mg) : S_need T T.d_base_needs.f = some (sp_need "base" (bcT T) T.c_Style.C T.c_Nest.C K) := by unfold S_need; rw [if_neg (fun_ne T.d_base_needs.F T.d_least_needs.F (by decide)), if_neg (fun_ne T.d_base_needs.F T.d_wish_needs.F (by decide)), if_neg (fun_ne T.d_base_needs.F T.d_wide_needs.F (by decide)), if_neg (fun_ne T.d_base_needs.F T.d_flow_needs.F (by decide)), if_neg (fun_ne T.d_base_needs.F T.d_rise_needs.F (by decide)), if_neg (fun_ne T.d_base_needs.F T.d_tall_needs.F (by decide)), if_pos rfl]
theorem S_need_left (T : Tx w K mg) : S_need T T.d_left_needs.f = some (sp_need "left" (bcT T) T.c_Style.C T.c_Nest.C K) := by unfold S_need; rw [if_neg (fun_ne T.d_left_needs.F T.d_least_needs.F (by decide)), if_neg (fun_ne T.d_left_needs.F T.d_wish_needs.F (by decide)), if_neg (fun_ne T.d_left_needs.F T.d_wide_needs.F (by decide)), if_neg (fun_ne T.d_left_needs.F T.d_flow_needs.F (by decide)), if_neg (fun_ne T.d_left_needs.F T.d_rise_needs.F (by decide)), if_neg (fun_ne T.d_left_needs.F T.d_tall_needs.F (by decide)), if_neg (fun_ne T.d_left_needs.F T.d_base_needs.F (by decide)), if_pos rfl]
theorem S_need_top (T : Tx w K mg) : S_need T T.d_top_needs.f = some (sp_need "top" (bcT T) T.c_Style.C T.c_Nest.C K) := by unfold S_need; rw [if_neg (fun_ne T.d_top_needs.F T.d_least_needs.F (by decide)), if_neg (fun_ne T.d_top_needs.F T.d_wish_needs.F (by decide)), if_neg (fun_ne T.d_top_needs.F T.d_wide_needs.F (by decide)), if_neg (fun_ne T.d_top_needs.F T.d_flow_needs.F (by decide)), if_neg (fun_ne T.d_top_needs.F T.d_rise_needs.F (by decide)), if_neg (fun_ne T.d_top_needs.F T.d_tall_needs.F (by decide)), if_neg (fun_ne T.d_top_needs.F T.d_base_needs.F (by decide)), if_neg (fun_ne T.d_top_needs.F T.d_left_needs.F (by decide)), if_pos rfl]
theorem held_found (T : Tx w K mg) : ∀ f sp, S_need T f = some sp → Held P w K mg base 9 f sp := fun f sp h => by
  unfold S_need at h
  split at h
  · next e => subst e; cases h; exact ⟨_, _, (ok_least_needs T).mono (by decide), T.d_least_needs.F.kp, T.d_least_needs.b⟩
  split at h
  · next e => subst e; cases h; exact ⟨_, _, (ok_wish_needs T).mono (by decide), T.d_wish_needs.F.kp, T.d_wish_needs.b⟩
  split at h
  · next e => subst e; cases h; exact ⟨_, _, (ok_wide_needs T).mono (by decide), T.d_wide_needs.F.kp, T.d_wide_needs.b⟩
  split at h
  · next e => subst e; cases h; exact ⟨_, _, (ok_flow_needs T).mono (by decide), T.d_flow_needs.F.kp, T.d_flow_needs.b⟩
  split at h
  · next e => subst e; cases h; exact ⟨_, _, (ok_rise_needs T).mono (by decide), T.d_rise_needs.F.kp, T.d_rise_needs.b⟩
  split at h
  · next e => subst e; cases h; exact ⟨_, _, (ok_tall_needs T).mono (by decide), T.d_tall_needs.F.kp, T.d_tall_needs.b⟩
  split at h
  · next e => subst e; cases h; exact ⟨_, _, (ok_base_needs T).mono (by decide), T.d_base_needs.F.kp, T.d_base_needs.b⟩
  split at h
  · next e => subst e; cases h; exact ⟨_, _, (ok_left_needs T).mono (by decide), T.d_left_needs.F.kp, T.d_left_needs.b⟩
  split at h
  · next e => subst e; cases h; exact ⟨_, _, (ok_top_needs T).mono (by decide), T.d_top_needs.F.kp, T.d_top_needs.b⟩
  cases h
def sp_needs_in (bc : Kd → Addr) (S C : Addr) (K : PySem.W.Frag) : Sp := fun vs H Q _ => ∃ (xv fv nv : V) (wd : String), vs = [xv, fv, nv, sX wd] ∧ wd ∈ words9 ∧ sp_need wd bc S C K [xv, fv, nv] H Q E0
theorem ok_needs_in (T : Tx w K mg) : FnOk P w K mg base CX0 10 T.d_needs_in.f T.d_needs_in.fd ["nest", "frame", "name", "word"] (sp_needs_in (bcT T) T.c_Style.C T.c_Nest.C K) := by
  refine T.d_needs_in.F.ok sc_needs_in (fun vs H Q E h => ?_) (fun cdv A outer s H vs Q E hr h => ?_)
  · obtain ⟨xv, fv, nv, wd, rfl, _⟩ := h
    rfl
  · obtain ⟨xv, fv, nv, wd, rfl, hw, k⟩ := h
    refine ⟨_, (pss_cons (ps_set (i := 4) sc_needs_in.nd rfl (Or.inl rfl) (pe_ix (ix_kdictK (K := K) (w := w) rfl rfl) (pe_glob (v := .ref T.U_NEEDS) (by rfl) T.v_NEEDS rfl) (pv 3) (fun _ _ => rfl)))
      (pss_one (ps_ret (pe_callA (i := 4) (held_found T) (hr.mono (by decide)) (by rfl) (Or.inl rfl) (pa_cons (pv 0) (pa_cons (pv 1) (pa_cons (pv 2) pa_nil))))))), ?_⟩
    simp only [words9, List.mem_cons, List.not_mem_nil, or_false] at hw
    tm_at "rzs"
    rcases hw with rfl | rfl | rfl | rfl | rfl | rfl | rfl | rfl | rfl
    · refine ⟨_, _, .ref T.d_least_needs.f, rfl, rfl, T.kn_least, ?_⟩
      dsimp only [gName]
      refine ⟨T.d_least_needs.f, _, rfl, S_need_least T, ?_⟩
      tm_at "rzs"
      exact k
    · refine ⟨_, _, .ref T.d_wish_needs.f, rfl, rfl, T.kn_wish, ?_⟩
      dsimp only [gName]
      refine ⟨T.d_wish_needs.f, _, rfl, S_need_wish T, ?_⟩
      tm_at "rzs"
      exact k
    · refine ⟨_, _, .ref T.d_wide_needs.f, rfl, rfl, T.kn_wide, ?_⟩
      dsimp only [gName]
      refine ⟨T.d_wide_needs.f, _, rfl, S_need_wide T, ?_⟩
      tm_at "rzs"
      exact k
    · refine ⟨_, _, .ref T.d_flow_needs.f, rfl, rfl, T.kn_flow, ?_⟩
      dsimp only [gName]
      refine ⟨T.d_flow_needs.f, _, rfl, S_need_flow T, ?_⟩
      tm_at "rzs"
      exact k
    · refine ⟨_, _, .ref T.d_rise_needs.f, rfl, rfl, T.kn_rise, ?_⟩
      dsimp only [gName]
      refine ⟨T.d_rise_needs.f, _, rfl, S_need_rise T, ?_⟩
      tm_at "rzs"
      exact k
    · refine ⟨_, _, .ref T.d_tall_needs.f, rfl, rfl, T.kn_tall, ?_⟩
      dsimp only [gName]
      refine ⟨T.d_tall_needs.f, _, rfl, S_need_tall T, ?_⟩
      tm_at "rzs"
      exact k
    · refine ⟨_, _, .ref T.d_base_needs.f, rfl, rfl, T.kn_base, ?_⟩
      dsimp only [gName]
      refine ⟨T.d_base_needs.f, _, rfl, S_need_base T, ?_⟩
      tm_at "rzs"
      exact k
    · refine ⟨_, _, .ref T.d_left_needs.f, rfl, rfl, T.kn_left, ?_⟩
      dsimp only [gName]
      refine ⟨T.d_left_needs.f, _, rfl, S_need_left T, ?_⟩
      tm_at "rzs"
      exact k
    · refine ⟨_, _, .ref T.d_top_needs.f, rfl, rfl, T.kn_top, ?_⟩
      dsimp only [gName]
      refine ⟨T.d_top_needs.f, _, rfl, S_need_top T, ?_⟩
      tm_at "rzs"
      exact k
end
end My
namespace My
open PySem PySem.Spec PyProof.Rows L2
section
variable {P : Program} {w : World} {K : PySem.W.Frag} {mg : Str → Option Value} {base : Heap}
theorem kb_needs_3_wide_high (T : Tx w K mg) : KBn K T.d_needs.fd ["tree", "name", "word", "wide", "high"] 3 ["wide", "high"] (fun us ws => [us.getD 0 .none, us.getD 1 .none, us.getD 2 .none, ws.getD 0 .none, ws.getD 1 .none]) (fun vs zs => [vs.getD 0 .non, vs.getD 1 .non, vs.getD 2 .non, zs.getD 0 .non, zs.getD 1 .non]) := by
  obtain ⟨oc, od, kV, doc, pm, an, cdv, ct, osl, e, _, _⟩ := T.d_needs.F.ex
  refine ⟨fun s us ws _ h1 h2 => ?_, fun r1 r2 => (.cons (vals_getD r1 0) (.cons (vals_getD r1 1) (.cons (vals_getD r1 2) (.cons (vals_getD r2 0) (.cons (vals_getD r2 1) .nil)))))⟩
  rw [e]
  exact match us, ws, h1, h2 with | [_, _, _], [_, _], _, _ => .of_eq rfl
def sp_needs (bc : Kd → Addr) (S : Addr) (K : PySem.W.Frag) : Sp := fun vs H Q _ => ∃ (t b : At) (n : List Nat) (hv : V) (ho : Option At) (zw zh : Sz) (wd : String) (fw : Int) (fh : V), vs = [.ref t.x, .str (sO n), sX wd, .int fw, fh] ∧ BoxAt bc S K H t ∧ t.depth ≤ 19 ∧ (t.pre .non).length ≤ 5000 ∧ TreeIn H t ∧ NdAt bc S K H t n b hv ho zw zh ∧ wd ∈ words9 ∧ 0 ≤ fw ∧ (fh = .non ∨ ∃ m : Int, fh = .int m ∧ 0 ≤ m) ∧ NewIts H (needI wd b zw zh (decide (fh = .non)) ho) Q
theorem ok_needs (T : Tx w K mg) : FnOk P w K mg base CX0 25 T.d_needs.f T.d_needs.fd ["tree", "name", "word", "wide", "high"] (sp_needs (bcT T) T.c_Style.C K) := by
  refine T.d_needs.F.ok sc_needs (fun vs H Q E h => ?_) (fun cdv A outer s H vs Q E hr h => ?_)
  · obtain ⟨t, b, n, hv, ho, zw, zh, wd, fw, fh, rfl, _⟩ := h
    rfl
  · obtain ⟨t, b, n, hv, ho, zw, zh, wd, fw, fh, rfl, ht, hd, hl, hok, hnd, hwd, hfw, hfh, k⟩ := h
    obtain rfl := hnd.nm
    refine ⟨_, (pss_cons (ps_set (i := 5) sc_needs.nd rfl (Or.inl rfl) (pe_make T.d_Nest_init.mks (ok_Nest_init T) (hr.mono (by decide)) (by rfl) T.c_Nest.g T.d_Nest_init.b .nil pass0 (pa_cons (pv 0) pa_nil)))
      (pss_cons (ps_expr (pe_meth (pv 5) T.c_Nest.cls T.d_Nest_named.meth (ok_Nest_named T) (hr.mono (by decide)) T.d_Nest_named.b .nil pass0 (pa_cons (pv 1) pa_nil)))
      (pss_cons (ps_expr (pe_call (ok_looked_word T) (hr.mono (by decide)) (by rfl) T.d_looked_word.g T.d_looked_word.F.kp T.d_looked_word.b .nil pass0 (pa_cons (pv 2) pa_nil)))
      (pss_one (ps_ret (pe_call (ok_needs_in T) (hr.mono (by decide)) (by rfl) T.d_needs_in.g T.d_needs_in.F.kp T.d_needs_in.b .nil pass0 (pa_cons (pv 5) (pa_cons (pe_call (ok_framed T) (hr.mono (by decide)) (by rfl) T.d_framed.g T.d_framed.F.kp T.d_framed.b .nil pass0 (pa_cons (pv 3) (pa_cons (pv 4) pa_nil))) (pa_cons (pv 1) (pa_cons (pv 2) pa_nil)))))))))), ?_⟩
    tm_at "rzs"
    intro x dx fx fdx nx
    have sm := make_same (o := HO.own x) (o' := HO.ins T.c_Nest.C dx []) fx fdx nx
    have k0 : KeepS H _ := Same.ks sm
    refine ⟨x, dx, t, rfl, upd_same, ht.ks k0, hd, hl, (hok.ks k0).ok, fun H1 b1 hN => ⟨rfl, ?_⟩⟩
    have s1 : Same H H1 := Same.mut' sm b1 fx
    dsimp only [gName]
    tm_at "rzs"
    obtain ⟨ndx, no, n1, n2, gx, _, _, _⟩ := id hN
    refine ⟨x, ndx, _, rfl, gx, rfl, ?_⟩
    tm_at "rzs"
    refine ⟨x, t, (b.x, b.nm, hv), rfl, hN, hok.nd, hnd.me, ?_⟩
    tm_at "rd"
    tm_at "rd"
    refine ⟨hwd, ?_⟩
    tm_at "rzs"
    refine fun p H2 s2 g2 => ?_
    tm_at "rzs"
    have s12 := s1.trans s2
    have h2 := hnd.ks (Same.ks s12)
    refine ⟨_, _, _, wd, rfl, hwd, x, p, t, b, hv, ho, zw, zh, fw, fh, rfl, hN.same s2, hok.nd, h2.me, h2.box, h2.hho, h2.hzw, h2.hzh, g2, h2.root, fun q vs H3 s3 f3 g3 i3 => ?_⟩
    exact k q vs H3 (s12.trans s3) (s12.free f3) g3 i3
end
end My
namespace My
open PySem PySem.Spec PyProof.Rows L2
section
variable {P : Program} {w : World} {K : PySem.W.Frag} {mg : Str → Option Value} {base : Heap}
theorem kb_asked_1_wide_high (T : Tx w K mg) : KBn K T.d_asked.fd ["tree", "wide", "high"] 1 ["wide", "high"] (fun us ws => [us.getD 0 .none, ws.getD 0 .none, ws.getD 1 .none]) (fun vs zs => [vs.getD 0 .non, zs.getD 0 .non, zs.getD 1 .non]) := by
  obtain ⟨oc, od, kV, doc, pm, an, cdv, ct, osl, e, _, _⟩ := T.d_asked.F.ex
  refine ⟨fun s us ws _ h1 h2 => ?_, fun r1 r2 => (.cons (vals_getD r1 0) (.cons (vals_getD r2 0) (.cons (vals_getD r2 1) .nil)))⟩
  rw [e]
  exact match us, ws, h1, h2 with | [_], [_, _], _, _ => .of_eq rfl
structure AkdAt (ns : List (List Nat)) (N : Item → List Item) (S : List Item) (H2 : Hp) (D E : Addr) (wl : List V) (wi kn : List Item) (kvs : List (List Key × V)) (G : Hp) : Prop where
  same : Same H2 G
  gD : G D = some (.lst wl)
  iD : ItmsAt G wl wi
  gE : G E = some (.dT kvs)
  hk : KnAt kvs kn
  bd : kn.length + missI ns kn ≤ 20000
  w : ∀ it ∈ wi, it ∈ kn
  s : ∀ it ∈ S, it ∈ kn
  r : ∀ it ∈ kn, Rch N S it
  u : ∀ it ∈ kn, InU ns it
def sp_asked (bc : Kd → Addr) (S : Addr) (K : PySem.W.Frag) : Sp := fun vs H Q _ => ∃ (t : At) (fw : Int) (fh : V) (N : Item → List Item) (r : Item → Bool), vs = [.ref t.x, .int fw, fh] ∧ BoxAt bc S K H t ∧ t.depth ≤ 19 ∧ (t.pre .non).length ≤ 1000 ∧ TreeIn H t ∧ 0 ≤ fw ∧ (fh = .non ∨ ∃ m : Int, fh = .int m ∧ 0 ≤ m) ∧
  (∀ it, InU (namesT t) it → ∃ b hv ho zw zh, NdAt bc S K H t it.1 b hv ho zw zh ∧ N it = needI it.2 b zw zh (decide (fh = .non)) ho) ∧ (∀ it, InU (namesT t) it → (r it = true ↔ Rch N (resI (fun _ => true) placed4 (namesT t)) it)) ∧ NewIts H (resI r words9 (namesT t)) Q
theorem ok_asked (T : Tx w K mg) : FnOk P w K mg base CX0 25 T.d_asked.f T.d_asked.fd ["tree", "wide", "high"] (sp_asked (bcT T) T.c_Style.C K) := by
  refine T.d_asked.F.ok sc_asked (fun vs H Q E h => ?_) (fun cdv A outer s H vs Q E hr h => ?_)
  · obtain ⟨t, fw, fh, N, r, rfl, _⟩ := h
    rfl
  · obtain ⟨t, fw, fh, N, r, rfl, ht, hd, hl, hok, hfw, hfh, hN0, hr0, k⟩ := h
    refine ⟨_, (pss_cons (ps_set (i := 3) sc_asked.nd rfl (Or.inl rfl) (pe_make T.d_Nest_init.mks (ok_Nest_init T) (hr.mono (by decide)) (by rfl) T.c_Nest.g T.d_Nest_init.b .nil pass0 (pa_cons (pv 0) pa_nil)))
      (pss_cons (ps_set (i := 4) sc_asked.nd rfl (Or.inl rfl) (pe_call (ok_framed T) (hr.mono (by decide)) (by rfl) T.d_framed.g T.d_framed.F.kp T.d_framed.b .nil pass0 (pa_cons (pv 1) (pa_cons (pv 2) pa_nil))))
      (pss_cons (ps_setLc2 (i := 7) (own := [("name", 5), ("word", 6)]) (vs1 := [6]) (g := gName 5) (g1 := gName 6) (by rfl) sc_asked.nd rfl rfl (sw_true rfl rfl rfl (by decide +kernel)) (pi_listK (K := K) rfl (pe_fldK (K := K) rfl (pv 3) rfl)) (blkOk_by (own := [("name", 5), ("word", 6)]) (N := N_asked) (sc := defScope s_asked) (by decide +kernel)) (by decide) (fun _ _ _ _ _ => (pg_name (i := 5) sc_asked.nd rfl (Or.inl rfl))) (fun _ _ _ _ _ => pts_nil) (fun _ _ _ _ _ => (pi_tupK (K := K) rfl (pe_glob (v := .ref T.U_PLACED) (by rfl) T.v_PLACED rfl))) (fun _ _ _ _ _ => (pg_name (i := 6) sc_asked.nd rfl (Or.inl rfl))) (fun _ _ _ _ _ => pts_nil) (fun _ _ _ _ _ => (pe_tupA (pa_cons (pv 5) (pa_cons (pv 6) pa_nil)))))
      (pss_cons (ps_set (i := 8) sc_asked.nd rfl (Or.inr rfl) (pe_dcT (own := [("item", 10)]) (g := gName 10) (units1 hr) (by rfl) sc_asked.nd (pi_listK (K := K) rfl (pv 7)) (blkOk_by (own := [("item", 10)]) (N := N_asked) (sc := defScope s_asked) (by decide +kernel)) (fun _ _ _ _ _ => (pg_name (i := 10) sc_asked.nd rfl (Or.inl rfl))) (fun _ _ _ _ _ => pts_nil) (fun _ _ _ _ _ => (pv 10)) (fun _ _ _ _ _ => pe_bl)))
      (pss_cons (ps_while PassesOwn.never (pt_cmpR (op_ne0K (K := K) hr.units rfl) (pv 7) (pe_lstA pa_nil) (nomark _))
      (pss_cons (ps_asg (pe_bm0 PySem.F.plainAttrs_list PySem.F.slot_list_pop PySem.F.type_list_pop mt_pop (pv 7)) (pg_tup (by rfl) (pgs_cons (pg_name (i := 5) sc_asked.nd rfl (Or.inl rfl)) (pgs_cons (pg_name (i := 6) sc_asked.nd rfl (Or.inl rfl)) pgs_nil))))
      (pss_one (ps_for PassesOwn.never (by rfl) (pi_listK (K := K) rfl (pe_call (ok_needs_in T) (hr.mono (by decide)) (by rfl) T.d_needs_in.g T.d_needs_in.F.kp T.d_needs_in.b .nil pass0 (pa_cons (pv 3) (pa_cons (pv 4) (pa_cons (pv 5) (pa_cons (pv 6) pa_nil)))))) (pg_name (i := 9) sc_asked.nd rfl (Or.inl rfl))
      (pss_one (ps_if (pt_cmp (pc_dnotin (hu_of hr) (pv 9) (pv 8)))
      (pss_cons (ps_dput (hu_of hr) (pv 8) (pv 9) pe_bl rfl)
      (pss_one (ps_expr (pe_bm PySem.F.plainAttrs_list PySem.F.slot_list_append PySem.F.type_list_append mt_appendA (pv 7) (pa_cons (pv 9) pa_nil)))))
      pss_nil))))))
      (pss_one (ps_ret (pe_lc2 (own := [("name", 5), ("word", 6)]) (vs1 := [6]) (g := gName 5) (g1 := gName 6) (by rfl) sc_asked.nd (pi_listK (K := K) rfl (pe_fldK (K := K) rfl (pv 3) rfl)) (blkOk_by (own := [("name", 5), ("word", 6)]) (N := N_asked) (sc := defScope s_asked) (by decide +kernel)) (by decide) (fun _ _ _ _ _ => (pg_name (i := 5) sc_asked.nd rfl (Or.inl rfl))) (fun _ _ _ _ _ => pts_nil) (fun _ _ _ _ _ => (pi_tupK (K := K) rfl (pe_glob (v := .ref T.U_WORDS) (by rfl) T.v_WORDS rfl))) (fun _ _ _ _ _ => (pg_name (i := 6) sc_asked.nd rfl (Or.inl rfl))) (fun _ _ _ _ _ => (pts_one (pt_cmp (pc_din (hu_of hr) (pe_tupA (pa_cons (pv 5) (pa_cons (pv 6) pa_nil))) (pv 8))))) (fun _ _ _ _ _ => (pe_tupA (pa_cons (pv 5) (pa_cons (pv 6) pa_nil)))))))))))), ?_⟩
    tm_at "rzs"
    intro x dx fx fdx nx
    have sm := make_same (o := HO.own x) (o' := HO.ins T.c_Nest.C dx []) fx fdx nx
    have k0 : KeepS H _ := Same.ks sm
    refine ⟨x, dx, t, rfl, upd_same, ht.ks k0, hd, by omega, (hok.ks k0).ok, fun H1 b1 hN => ⟨rfl, ?_⟩⟩
    have s1 : Same H H1 := Same.mut' sm b1 fx
    dsimp only [gName]
    tm_at "rzs"
    intro pf H2 s2 g2
    have hN2 := hN.same s2
    have s02 := s1.trans s2
    obtain ⟨ndx, no, nd1, nd2, gx, go, gd1, gd2⟩ := id hN2
    have go' : H2 no = some (.lst ((namesT t).map fun l => V.str (sO l))) := by rw [go]; unfold nms namesT; rw [List.map_map]; rfl
    have hln : (namesT t).length ≤ 1000 := by unfold namesT; rw [List.length_map]; exact hl
    have ndn : (namesT t).Nodup := hok.nd
    generalize hns : namesT t = ns at go' hln ndn hr0 hN0 k
    dsimp only [gName]
    refine ⟨_, rfl, ?_⟩
    refine ⟨_, _, _, _, _, rfl, gx, T.c_Nest.cls, T.n_Nest_order, rfl, ?_⟩
    refine ⟨no, rfl, ⟨_, sqL go'⟩, fun D hD => lc2It (K := K) (ws := placed4) (ns := ns) (fun _ => true) hD (sqL go') T.t_PLACED (by show ns.length * 4 < 100000; omega) (fun _ => rfl) (fun _ _ => rfl) (fun v G R h => ⟨_, rfl, ⟨_, T.t_PLACED G⟩, h⟩) (fun n w G Kt Kf mn mw s' kt kf => ?_) (fun us H3 s3 g3 i3 => ?_)⟩
    · unfold tYes
      simp only [if_true]
      tm_at "rzs"
      intro p G' fp sp gp
      exact kt rfl p G' sp fp gp
    generalize hS : resI (fun _ => true) placed4 ns = S at i3 hr0
    have pw9 : ∀ w ∈ placed4, w ∈ words9 := by decide
    have hSd : S.Nodup := by rw [← hS]; exact nd_resI (by decide) ndn
    have hSU : ∀ it ∈ S, InU ns it := fun it m => by
      rw [← hS] at m
      obtain ⟨a, b, _⟩ := mem_resI.mp m
      exact ⟨a, pw9 _ b⟩
    have hSl : S.length ≤ 4000 := by
      rw [← hS]
      have := len_resI (fun _ => true) placed4 ns
      have : ns.length * placed4.length = ns.length * 4 := rfl
      omega
    have hUl : ∀ kn, missI ns kn ≤ 9000 := fun kn => by
      have h1 := List.length_filter_le (fun it => decide (it ∉ kn)) (uniI ns)
      have h2 := len_resI (fun _ => true) words9 ns
      have : ns.length * words9.length = ns.length * 9 := rfl
      unfold missI
      unfold uniI at h1 ⊢
      omega
    dsimp only [gName]
    refine ⟨_, rfl, ?_⟩
    refine ⟨D, rfl, ⟨_, sqL g3⟩, fun E hE => dcIts (K := K) hSd hE (sqL g3) i3 (by omega) (fun _ => rfl) (fun v G F h => ⟨_, rfl, h⟩) (fun v G F h => h) (fun kvs H4 s4 g4 kn4 => ?_)⟩
    have hE2 : H2 E = none := s3.free hE
    have nDE : D ≠ E := by
      rintro rfl
      rw [g3] at hE
      cases hE
    dsimp only [gName]
    show tWhile _ _ _ [some (.ref t.x), some (.int fw), some fh, some (.ref x), some (.ref pf), none, none, some (.ref D), some (.ref E), none, none] H4
    refine ⟨fun m σ G => ∃ (wl : List V) (wi kn : List Item) (kvs : List (List Key × V)) (v5 v6 v9 : Option V), σ = [some (.ref t.x), some (.int fw), some fh, some (.ref x), some (.ref pf), v5, v6, some (.ref D), some (.ref E), v9, none] ∧ AkdAt ns N S H2 D E wl wi kn kvs G ∧ m = 2 * missI ns kn + wi.length ∧ m ≤ 60000 ∧ ∀ a ∈ kn, a ∉ wi → ∀ b ∈ N a, b ∈ kn,
      ⟨_, us, S, S, kvs, none, none, none, rfl, ⟨s3.trans s4, s4 _ _ g3, i3.ks (Same.ks s4), g4, kn4, by have := hUl S; omega, fun it m => m, fun it m => m, fun it m => .base m, hSU⟩, rfl, by have := hUl S; omega, fun a m n => absurd m n⟩, ?_⟩
    rintro m σ G ⟨wl, wi, kn, kvs, v5, v6, v9, rfl, A, em, hm0, cl⟩
    dsimp only [gName]
    refine ⟨_, rfl, ?_⟩
    tm_at "rds"
    intro pe G1 fe se ge
    refine ⟨pe, rfl, sqL ge, .inr ⟨D, wl, rfl, sqL (se _ _ A.gD), ?_⟩⟩
    refine ⟨_, rfl, ?_⟩
    have A1 : AkdAt ns N S H2 D E wl wi kn kvs G1 := ⟨A.same.trans se, se _ _ A.gD, A.iD.ks (Same.ks se), se _ _ A.gE, A.hk, A.bd, A.w, A.s, A.r, A.u⟩
    clear A
    rcases List.eq_nil_or_concat wl with rfl | ⟨wl', v, rfl⟩
    · refine iteF' (by rfl) ?_
      have ewi : wi = [] := List.length_eq_zero_iff.mp A1.iD.1.symm
      subst ewi
      have ek : ∀ it, InU ns it → (it ∈ kn ↔ r it = true) := fun it hu => by
        rw [hr0 it hu]
        exact ⟨A1.r it, fun h => h.le (P := fun it => it ∈ kn) A1.s fun a ha => cl a ha (by simp)⟩
      refine ⟨_, rfl, ?_⟩
      refine ⟨_, _, _, _, _, rfl, A1.same _ _ gx, T.c_Nest.cls, T.n_Nest_order, rfl, ?_⟩
      refine ⟨no, rfl, ⟨_, sqL (A1.same _ _ go')⟩, fun D2 hD2 => lc2It (K := K) (ws := words9) (ns := ns) r hD2 (sqL (A1.same _ _ go')) T.t_WORDS (by show ns.length * 9 < 100000; omega) (fun _ => rfl) (fun _ _ => rfl) (fun v G R h => ⟨_, rfl, ⟨_, T.t_WORDS G⟩, h⟩) (fun n w G Kt Kf mn mw s' kt kf => ?_) (fun us G s' gD iu => ?_)⟩
      · tm_at "rzs"
        intro p G' fp sp gp
        have gE' := sp _ _ (s' _ _ A1.gE)
        tm_at "rzs"
        refine ⟨E, _, rfl, DGet.t (k := itK (n, w)) gE' (by rw [itK_kV]; exact gp), ?_⟩
        have er : (valV kvs (itK (n, w))).isSome = r (n, w) := Bool.eq_iff_iff.mpr ((A1.hk.1 (n, w)).trans (ek (n, w) ⟨mn, mw⟩))
        rw [er]
        refine ⟨_, rfl, ?_⟩
        cases e : r (n, w) with
        | true =>
          refine iteT' rfl ?_
          tm_at "rzs"
          intro p2 G2 fp2 sp2 gp2
          exact kt e p2 G2 (sp.trans sp2) (sp.free fp2) gp2
        | false =>
          refine iteF' rfl ?_
          exact kf e _ sp
      · have sH : Same H G := s02.trans (A1.same.trans s')
        exact k D2 us G sH ((s02.trans A1.same).free hD2) gD iu
    refine iteT' (by simp) ?_
    obtain ⟨wi', it, rfl⟩ : ∃ wi' it, wi = wi' ++ [it] := by
      rcases List.eq_nil_or_concat wi with rfl | ⟨wi', it, e⟩
      · have := A1.iD.1
        rw [List.concat_eq_append, List.length_append] at this
        simp at this
      · exact ⟨wi', it, by rw [e, List.concat_eq_append]⟩
    rw [List.concat_eq_append] at A1
    have lw : wl'.length = wi'.length := by
      have := A1.iD.1
      rw [List.length_append, List.length_append] at this
      simpa using this
    have hitm : ItAt G1 v it := A1.iD.2 wl'.length v it (by rw [List.getElem?_concat_length]) (by rw [lw, List.getElem?_concat_length])
    have iD' : ItmsAt G1 wl' wi' := ⟨lw, fun j u jt a b => A1.iD.2 j u jt (by rw [List.getElem?_append_left (List.getElem?_eq_some_iff.mp a).1]; exact a) (by rw [List.getElem?_append_left (List.getElem?_eq_some_iff.mp b).1]; exact b)⟩
    refine ⟨fun σ' G' => ∃ m', m' < m ∧ ∃ (wl : List V) (wi kn : List Item) (kvs : List (List Key × V)) (v5 v6 v9 : Option V), σ' = [some (.ref t.x), some (.int fw), some fh, some (.ref x), some (.ref pf), v5, v6, some (.ref D), some (.ref E), v9, none] ∧ AkdAt ns N S H2 D E wl wi kn kvs G' ∧ m' = 2 * missI ns kn + wi.length ∧ m' ≤ 60000 ∧ ∀ a ∈ kn, a ∉ wi → ∀ b ∈ N a, b ∈ kn, fun σ' G' h => h, ?_⟩
    refine ⟨_, rfl, .inl ⟨rfl, _, sqL A1.gD⟩, D, _, v, rfl, rfl, A1.gD, by simp, ?_⟩
    obtain ⟨p, rfl, gp⟩ := hitm
    have hu : InU ns it := A1.u it (A1.w it (by simp))
    obtain ⟨b, hv, ho, zw, zh, hnd, eN⟩ := hN0 it hu
    rw [show (wl' ++ [V.ref p]).dropLast = wl' from by simp]
    have b2 : But D G1 (upd G1 D (.lst wl')) := But.upd But.refl
    have k2 : KeepS G1 (upd G1 D (.lst wl')) := KeepS.refl.butL b2 A1.gD
    have g2D : upd G1 D (.lst wl') D = some (.lst wl') := upd_same
    have s2G : Same H2 (upd G1 D (.lst wl')) := Same.mut' A1.same b2 hD
    have gE2 : upd G1 D (.lst wl') E = some (.dT kvs) := b2.app nDE.symm A1.gE
    generalize upd G1 D (.lst wl') = G2 at b2 k2 g2D s2G gE2
    refine ⟨p, _, rfl, sqT (k2.tup gp), rfl, ?_⟩
    refine ⟨_, _, rfl, ⟨_, _, rfl, ⟨rfl, ?_⟩⟩⟩
    have sH2 : Same H G2 := s02.trans s2G
    have nd2 := hnd.ks (Same.ks sH2)
    dsimp only
    show tFor _ _ _ _ [some (.ref t.x), some (.int fw), some fh, some (.ref x), some (.ref pf), some (.str (sO it.1)), some (sX it.2), some (.ref D), some (.ref E), v9, none] G2
    refine ⟨_, rfl, ?_⟩
    refine ⟨_, rfl, ?_⟩
    refine ⟨_, rfl, ?_⟩
    refine ⟨_, rfl, ?_⟩
    refine ⟨_, _, _, it.2, rfl, hu.2, x, pf, t, b, hv, ho, zw, zh, fw, fh, by rw [hnd.nm], hN2.same s2G, hok.nd, nd2.me, nd2.box, nd2.hho, nd2.hzw, nd2.hzh, s2G _ _ g2, nd2.root, fun q vs G3 sq fq gq iq => ?_⟩
    have iq : ItmsAt G3 vs (N it) := by rw [eN]; exact iq
    have hkn0 : AkdAt ns N S H2 D E wl' wi' kn kvs G3 := ⟨s2G.trans sq, sq _ _ g2D, iD'.ks (k2.trans (Same.ks sq)), sq _ _ gE2, A1.hk, A1.bd, fun a m => A1.w a (by simp [m]), A1.s, A1.r, A1.u⟩
    have nqD : q ≠ D := by rintro rfl; rw [g2D] at fq; cases fq
    have nqE : q ≠ E := by rintro rfl; rw [gE2] at fq; cases fq
    have mit : it ∈ kn := A1.w it (by simp)
    refine ⟨q, rfl, ⟨_, sqL gq⟩, for_list (K := K) (a := q) (xs := vs) (fun i σ' G' => ∃ (wl : List V) (wi kn : List Item) (kvs : List (List Key × V)) (v9 : Option V), σ' = [some (.ref t.x), some (.int fw), some fh, some (.ref x), some (.ref pf), some (.str (sO it.1)), some (sX it.2), some (.ref D), some (.ref E), v9, none] ∧ AkdAt ns N S H2 D E wl wi kn kvs G' ∧ G' q = some (.lst vs) ∧ ItmsAt G' vs (N it) ∧ 2 * missI ns kn + wi.length + 1 ≤ m ∧ (∀ a ∈ kn, a ∉ wi → a = it ∨ ∀ b ∈ N a, b ∈ kn) ∧ (∀ b ∈ (N it).take i, b ∈ kn) ∧ it ∈ kn)
      ⟨wl', wi', kn, kvs, v9, rfl, hkn0, gq, iq, by rw [List.length_append] at em; simp at em; omega, fun a ha hn => by
        by_cases e : a = it
        · exact .inl e
        · exact .inr (cl a ha (by simp [hn, e])), fun b m => by simp at m, mit⟩ (fun i σ' G' _ ⟨_, _, _, _, _, _, _, g, _⟩ => sqL g) ?_ ?_⟩
    · rintro i xv σ' G4 hx ⟨wl, wi, kn, kvs, v9, rfl, B, gq4, iq4, hm, cl4, tk4, mit4⟩
      have hi := (List.getElem?_eq_some_iff.mp hx).1
      have hc : (N it)[i]? = some ((N it)[i]'(by rw [← iq4.1]; exact hi)) := List.getElem?_eq_getElem (by rw [← iq4.1]; exact hi)
      have mc : (N it)[i]'(by rw [← iq4.1]; exact hi) ∈ N it := List.getElem_mem _
      have hit := iq4.2 i _ _ hx hc
      generalize (N it)[i]'(by rw [← iq4.1]; exact hi) = c at hc mc hit
      obtain ⟨p4, rfl, gp4⟩ := hit
      have cU : InU ns c := by
        have := hnd.ins it.2 (decide (fh = .non)) c (by rw [← eN]; exact mc)
        rwa [hns] at this
      have rc : Rch N S c := .step (B.r it mit4) mc
      have tk5 : ∀ kn' : List Item, (∀ a ∈ kn, a ∈ kn') → c ∈ kn' → ∀ b ∈ (N it).take (i + 1), b ∈ kn' := fun kn' h1 h2 b mb => by
        rw [List.take_add_one, hc] at mb
        rcases List.mem_append.mp mb with mb | mb
        · exact h1 b (tk4 b mb)
        · rw [List.mem_singleton.mp mb]; exact h2
      dsimp only [gName]
      refine ⟨_, rfl, _, rfl, E, _, rfl, DGet.t (k := itK c) B.gE (by rw [itK_kV]; exact gp4), ?_⟩
      refine ⟨_, rfl, ?_⟩
      by_cases hkc : c ∈ kn
      · refine iteF' (by rw [(B.hk.1 c).mpr hkc]; rfl) ?_
        exact ⟨wl, wi, kn, kvs, _, rfl, B, gq4, iq4, hm, cl4, tk5 kn (fun a h => h) hkc, mit4⟩
      · have hno := B.hk.not.mp hkc
        refine iteT' (by rw [hno]; rfl) ?_
        have lk : kvs.length < sizeLine := by rw [sizeLine_eq, B.hk.2]; have := B.bd; omega
        refine ⟨_, rfl, _, rfl, E, _, rfl, DPut.t (k := itK c) B.gE (by rw [itK_kV]; exact gp4) lk, ?_⟩
        have bE : But E G4 (upd G4 E (.dT (putK kvs (itK c) (.bl true)))) := But.upd But.refl
        have kE : KeepS G4 (upd G4 E (.dT (putK kvs (itK c) (.bl true)))) := KeepS.refl.butT bE B.gE
        have gE5 : upd G4 E (.dT (putK kvs (itK c) (.bl true))) E = some (.dT (putK kvs (itK c) (.bl true))) := upd_same
        generalize upd G4 E (.dT (putK kvs (itK c) (.bl true))) = G5 at bE kE gE5
        have gD5 := bE.app nDE B.gD
        refine ⟨_, rfl, .inl ⟨rfl, _, sqL gD5⟩, ?_⟩
        refine ⟨_, rfl, ?_⟩
        have lwl : wl.length < sizeLine := by
          have h3 := B.iD.1
          rw [sizeLine_eq, h3]
          omega
        refine ⟨D, wl, _, rfl, rfl, gD5, lwl, fun G6 b6 g6 => ?_⟩
        have k6 : KeepS G5 G6 := KeepS.refl.butL b6 gD5
        have k46 : KeepS G4 G6 := kE.trans k6
        have sE : Same H2 G5 := Same.mut' B.same bE hE2
        have s6 : Same H2 G6 := Same.mut' sE b6 hD
        have gE6 := b6.app nDE.symm gE5
        have ms := miss_add cU hkc
        exact ⟨wl ++ [.ref p4], wi ++ [c], kn ++ [c], _, _, rfl, ⟨s6, g6, (B.iD.snoc ⟨p4, rfl, gp4⟩).ks k46, gE6, B.hk.put _ hkc, by rw [List.length_append]; show kn.length + 1 + _ ≤ _; have := B.bd; omega, fun a ha => by
          rcases List.mem_append.mp ha with ha | ha
          · exact List.mem_append_left _ (B.w a ha)
          · exact List.mem_append_right _ ha, fun a ha => List.mem_append_left _ (B.s a ha), fun a ha => by
          rcases List.mem_append.mp ha with ha | ha
          · exact B.r a ha
          · rw [List.mem_singleton.mp ha]; exact rc, fun a ha => by
          rcases List.mem_append.mp ha with ha | ha
          · exact B.u a ha
          · rw [List.mem_singleton.mp ha]; exact cU⟩, b6.app nqD (bE.app nqE gq4), iq4.ks k46, by rw [List.length_append]; show _ + (wi.length + 1) + 1 ≤ m; omega, fun a ha hn => by
          have hn' : a ∉ wi := fun z => hn (List.mem_append_left _ z)
          have hnc : a ≠ c := fun z => hn (List.mem_append_right _ (by rw [z]; exact List.mem_singleton.mpr rfl))
          rcases List.mem_append.mp ha with ha | ha
          · rcases cl4 a ha hn' with e | h
            · exact .inl e
            · exact .inr fun b mb => List.mem_append_left _ (h b mb)
          · exact absurd (List.mem_singleton.mp ha) hnc, tk5 _ (fun a h => List.mem_append_left _ h) (by simp), List.mem_append_left _ mit4⟩
    · rintro σ' G4 ⟨wl, wi, kn, kvs, v9, rfl, B, gq4, iq4, hm, cl4, tk4, mit4⟩
      rw [iq4.1, List.take_length] at tk4
      refine ⟨_, by omega, wl, wi, kn, kvs, _, _, _, rfl, B, rfl, by omega, fun a ha hn => ?_⟩
      rcases cl4 a ha hn with rfl | h
      · exact tk4
      · exact h
end
end My
namespace My
open PySem PySem.Spec PyProof.Rows L2
section
variable {P : Program} {w : World} {K : PySem.W.Frag} {mg : Str → Option Value} {base : Heap}
def sp_w_cell_at (K : PySem.W.Frag) : Sp := fun vs H Q _ => ∃ (a : Addr) (ns : List Int), vs = [.ref a, .int 0] ∧ SqL K H a (ns.map V.int) ∧ ns.length ≤ 63 ∧ Q (.int (ns.headD 0)) H
theorem ok_w_cell_at (T : Tx w K mg) : FnOk P w K mg base CX0 1 T.d_w_cell_at.f T.d_w_cell_at.fd ["_law_script", "_law_k"] (sp_w_cell_at K) := by
  refine T.d_w_cell_at.F.ok sc_w_cell_at (fun vs H Q E h => ?_) (fun cdv A outer s H vs Q E hr h => ?_)
  · obtain ⟨x, t, rfl, _⟩ := h
    rfl
  · obtain ⟨a, ns, rfl, hS, hl, k⟩ := h
    refine ⟨_, (pss_cons (ps_if (pt_cmpR op_lt (pv 1) (pe_callB (call_lenK (K := K) rfl) (by rfl) T.b_len (by decide +kernel) (pa_cons (pv 0) pa_nil)) (nomark _))
      (pss_one (ps_ret (pe_ix (ix_seqK (K := K) rfl) (pv 0) (pv 1) (fun _ _ => rfl))))
      pss_nil)
      (pss_one (ps_ret pe_int))), ?_⟩
    refine ⟨_, rfl, _, rfl, _, _, rfl, .inl ⟨_, hS, rfl⟩, _, _, rfl, rfl, _, rfl, ite2 (fun e => ?_) (fun e => ?_)⟩
    · cases ns with
      | nil => simp at e
      | cons z r => exact ⟨_, rfl, _, rfl, .inl ⟨_, _, _, _, rfl, rfl, hS, atI_nat (j := 0) rfl, k⟩⟩
    · cases ns with
      | nil => exact k
      | cons z r => simp at e
end
end My
namespace My
open PySem PySem.Spec PyProof.Rows L2
section
variable {P : Program} {w : World} {K : PySem.W.Frag} {mg : Str → Option Value} {base : Heap}
def sp_w_mixed : Sp := fun vs H Q _ => ∃ (c k : Int), vs = [.int c, .int k] ∧ ∀ n : Int, 0 ≤ n → Q (.int n) H
theorem ok_w_mixed (T : Tx w K mg) : FnOk P w K mg base CX0 1 T.d_w_mixed.f T.d_w_mixed.fd ["_law_cell", "_law_k"] (sp_w_mixed) := by
  refine T.d_w_mixed.F.ok sc_w_mixed (fun vs H Q E h => ?_) (fun cdv A outer s H vs Q E hr h => ?_)
  · obtain ⟨x, t, rfl, _⟩ := h
    rfl
  · obtain ⟨c, j, rfl, k⟩ := h
    refine ⟨_, (pss_cons (ps_set (i := 2) sc_w_mixed.nd rfl (Or.inl rfl) (pe_op op_add (pe_op op_mod (pv 0) pe_int) (pe_op op_mul (pe_op op_fdivW (pv 0) pe_int) pe_int)))
      (pss_cons (ps_set (i := 2) sc_w_mixed.nd rfl (Or.inl rfl) (pe_op op_mod (pe_op op_mul (pe_op op_add (pe_op op_add (pv 2) (pe_op op_mul pe_int (pv 1))) pe_int) pe_int) pe_int))
      (pss_cons (ps_set (i := 2) sc_w_mixed.nd rfl (Or.inl rfl) (pe_op op_mod (pe_op op_mul (pv 2) (pe_op op_add (pe_op op_add (pe_op op_fdivW (pv 2) pe_int) pe_int) (pv 1))) pe_int))
      (pss_one (ps_ret (pe_op op_mod (pe_op op_mul (pv 2) (pe_op op_add (pe_op op_fdivW (pv 2) pe_int) pe_int)) pe_int)))))), ?_⟩
    tm_at "rds"
    refine k _ ?_
    exact Int.emod_nonneg _ (by decide)
end
end My
namespace My
open PySem PySem.Spec PyProof.Rows L2
section
variable {P : Program} {w : World} {K : PySem.W.Frag} {mg : Str → Option Value} {base : Heap}
def sp_w_next : Sp := fun vs H Q _ => ∃ (a : Addr) (m : Int), vs = [.ref a, .int m] ∧ Src H a ∧ 0 < m ∧ m < 2 ^ 64 ∧
  ∀ (n : Int) (H' : Hp), Dr a H H' → 0 ≤ n → n < m → Q (.int n) H'
theorem ok_w_next (T : Tx w K mg) : FnOk P w K mg base CX0 2 T.d_w_next.f T.d_w_next.fd ["_law_source_here", "_law_many"] (sp_w_next) := by
  refine T.d_w_next.F.ok sc_w_next (fun vs H Q E h => ?_) (fun cdv A outer s H vs Q E hr h => ?_)
  · obtain ⟨a, m, rfl, _⟩ := h
    rfl
  · obtain ⟨a, m, rfl, ⟨⟨c0, c1, c2⟩, hs⟩, m0, m1, k⟩ := h
    have hL : SqL K H a [.int c0, .int c1, .int c2] := sqL hs
    refine ⟨_, (pss_cons (ps_if (pt_cmpR op_ge (pe_ix (ix_seqK (K := K) rfl) (pv 0) pe_int (fun _ _ => rfl)) (pe_op op_pow pe_int pe_int) (nomark _))
      (pss_cons (ps_set (i := 2) sc_w_next.nd rfl (Or.inl rfl) (pe_op op_mod (pe_ix (ix_seqK (K := K) rfl) (pv 0) pe_int (fun _ _ => rfl)) (pv 1)))
      (pss_cons (ps_asg (pe_op op_fdivW (pe_ix (ix_seqK (K := K) rfl) (pv 0) pe_int (fun _ _ => rfl)) (pv 1)) (pg_sub (pv 0) pe_int set_listA))
      (pss_one (ps_ret (pv 2)))))
      pss_nil)
      (pss_cons (ps_asg (pe_op op_add (pe_ix (ix_seqK (K := K) rfl) (pv 0) pe_int (fun _ _ => rfl)) pe_int) (pg_sub (pv 0) pe_int set_listA))
      (pss_one (ps_ret (pe_op op_mod (pe_call (ok_w_mixed T) (hr.mono (by decide)) (by rfl) T.d_w_mixed.g T.d_w_mixed.F.kp T.d_w_mixed.b .nil pass0 (pa_cons (pe_ix (ix_seqK (K := K) rfl) (pv 0) pe_int (fun _ _ => rfl)) (pa_cons (pe_ix (ix_seqK (K := K) rfl) (pv 0) pe_int (fun _ _ => rfl)) pa_nil))) (pv 1)))))), ?_⟩
    refine ⟨_, rfl, .inl ⟨_, _, _, _, rfl, rfl, hL, atI_nat (j := 0) rfl, _, _, rfl, rfl, ⟨by decide, by decide, by decide⟩, _, _, rfl, rfl, _, rfl, ite2 (fun e => ?_) (fun e => ?_)⟩⟩
    · refine ⟨_, rfl, .inl ⟨_, _, _, _, rfl, rfl, hL, atI_nat (j := 0) rfl, ?_⟩⟩
      tm_at "rds"
      refine .inl ⟨_, _, _, _, rfl, rfl, hL, atI_nat (j := 0) rfl, ?_⟩
      tm_at "rds"
      refine ⟨_, _, _, _, rfl, rfl, hs, rfl, fun H1 B1 g1 => ?_⟩
      tm_at "rds"
      refine k _ _ ⟨⟨(c0 / m, c1, c2), g1⟩, B1⟩ ?_ ?_
      · exact Int.emod_nonneg _ (by omega)
      · exact Int.emod_lt_of_pos _ m0
    · refine ⟨_, rfl, .inl ⟨_, _, _, _, rfl, rfl, hL, atI_nat (j := 2) rfl, ?_⟩⟩
      tm_at "rds"
      refine ⟨_, _, _, _, rfl, rfl, hs, rfl, fun H1 B1 g1 => ?_⟩
      refine ⟨_, rfl, .inl ⟨_, _, _, _, rfl, rfl, sqL g1, atI_nat (j := 1) rfl, ?_⟩⟩
      refine ⟨_, rfl, .inl ⟨_, _, _, _, rfl, rfl, sqL g1, atI_nat (j := 2) rfl, ?_⟩⟩
      refine ⟨_, _, rfl, fun n n0 => ?_⟩
      tm_at "rds"
      refine k _ _ ⟨⟨(c0, c1, c2 + 1), g1⟩, B1⟩ ?_ ?_
      · exact Int.emod_nonneg _ (by omega)
      · exact Int.emod_lt_of_pos _ m0
end
end My
namespace My
open PySem PySem.Spec PyProof.Rows L2
section
variable {P : Program} {w : World} {K : PySem.W.Frag} {mg : Str → Option Value} {base : Heap}
def sp_w_names : Sp := fun vs H Q _ => ∃ (s : Addr) (n : Nat), vs = [.ref s, .int (n : Int)] ∧ Src H s ∧ n ≤ 26 ∧ ∀ (p : Addr) (ls : List (List Nat)) H', Dr s H H' → p ≠ s → H p = none → H' p = some (.lst (ls.map fun l => V.str (sO l))) → ls.length = n → (∀ l ∈ ls, NameOk l) → ls.Nodup → Q (.ref p) H'
theorem ok_w_names (T : Tx w K mg) : FnOk P w K mg base CX0 3 T.d_w_names.f T.d_w_names.fd ["_law_source_here", "_law_many"] (sp_w_names) := by
  refine T.d_w_names.F.ok sc_w_names (fun vs H Q E h => ?_) (fun cdv A outer s H vs Q E hr h => ?_)
  · obtain ⟨s, n, rfl, _⟩ := h
    rfl
  · obtain ⟨s, n, rfl, hs, hn, k⟩ := h
    refine ⟨_, (pss_cons (ps_set (i := 2) sc_w_names.nd rfl (Or.inr rfl) pe_str)
      (pss_cons (ps_set (i := 4) sc_w_names.nd rfl (Or.inl rfl) (pe_joinN (K := K) rfl pe_str (pe_lc (own := [("_law_k", 3)]) (g := gName 3) (by rfl) sc_w_names.nd (pi_range1 (by rfl) T.b_range (pa_cons (pe_call (ok_w_next T) (hr.mono (by decide)) (by rfl) T.d_w_next.g T.d_w_next.F.kp T.d_w_next.b .nil pass0 (pa_cons (pv 0) (pa_cons pe_int pa_nil))) pa_nil)) (blkOk_by (own := [("_law_k", 3)]) (N := N_w_names) (sc := defScope s_w_names) (by decide +kernel)) (fun _ _ _ _ _ => (pg_name (i := 3) sc_w_names.nd rfl (Or.inl rfl))) (fun _ _ _ _ _ => pts_nil) (fun _ _ _ _ _ => (pe_ix ix_str (pv 2) (pe_call (ok_w_next T) (hr.mono (by decide)) (by rfl) T.d_w_next.g T.d_w_next.F.kp T.d_w_next.b .nil pass0 (pa_cons (pv 0) (pa_cons pe_int pa_nil))) (fun _ _ => rfl))))))
      (pss_cons (ps_set (i := 5) sc_w_names.nd rfl (Or.inl rfl) (pe_call (ok_w_next T) (hr.mono (by decide)) (by rfl) T.d_w_next.g T.d_w_next.F.kp T.d_w_next.b .nil pass0 (pa_cons (pv 0) (pa_cons (pe_op op_add (pe_callB (call_lenK (K := K) rfl) (by rfl) T.b_len (by decide +kernel) (pa_cons (pv 4) pa_nil)) pe_int) pa_nil))))
      (pss_cons (ps_set (i := 6) sc_w_names.nd rfl (Or.inl rfl) (pe_call (ok_w_next T) (hr.mono (by decide)) (by rfl) T.d_w_next.g T.d_w_next.F.kp T.d_w_next.b .nil pass0 (pa_cons (pv 0) (pa_cons pe_int pa_nil))))
      (pss_cons (ps_set (i := 7) sc_w_names.nd rfl (Or.inl rfl) (pe_lstA pa_nil))
      (pss_cons (ps_for PassesOwn.never (by rfl) (pi_range1 (by rfl) T.b_range (pa_cons (pv 1) pa_nil)) (pg_name (i := 3) sc_w_names.nd rfl (Or.inl rfl))
      (pss_cons (ps_set (i := 8) sc_w_names.nd rfl (Or.inl rfl) (pe_ix ix_str (pv 2) (pe_op op_mod (pe_op op_add (pv 6) (pe_op op_mul pe_int (pv 3))) pe_int) (fun _ _ => rfl)))
      (pss_cons (ps_set (i := 9) sc_w_names.nd rfl (Or.inl rfl) (pe_op op_add_str (pe_op op_add_str (pe_op op_add_str (pe_slice sl_str (pv 4) po_none (po_some (pv 5))) (pv 8)) (pe_slice sl_str (pv 4) (po_some (pv 5)) po_none)) (pe_op op_repS0 pe_str (pe_op op_mod (pv 3) pe_int))))
      (pss_one (ps_expr (pe_bm PySem.F.plainAttrs_list PySem.F.slot_list_insert PySem.F.type_list_insert mt_insert (pv 7) (pa_cons (pe_call (ok_w_next T) (hr.mono (by decide)) (by rfl) T.d_w_next.g T.d_w_next.F.kp T.d_w_next.b .nil pass0 (pa_cons (pv 0) (pa_cons (pe_op op_add (pv 3) pe_int) pa_nil))) (pa_cons (pv 9) pa_nil))))))))
      (pss_one (ps_ret (pv 7))))))))), ?_⟩
    refine ⟨⟨_, rfl⟩, ?_⟩
    tm_at "rzs"
    intro n1 H1 d1 l1 u1
    obtain ⟨m1, rfl⟩ := Int.eq_ofNat_of_zero_le l1
    have hs1 : Src H1 s := d1.s
    refine ⟨_, rfl, by omega, by omega, fun D hD => lcRd (n := (m1 : Int).toNat) (fun c : Nat => V.str (sO [c])) (fun _ c => c ∈ lettersL) hs1 hD (by omega) (fun i H2 Kt Kf hi d2 kt => ?_) (fun us H3 d3 ul um nD g3 => ?_)⟩
    · tm_at "rzs"
      intro n2 H4 d4 l4 u4
      refine ⟨_, _, letN n2, rfl, rfl, Nat.le_of_ble_eq_true rfl, letN_at l4 u4, ?_⟩
      exact kt _ _ d4 (letN_mem l4 u4)
    have um' : ∀ c ∈ us, c ∈ lettersL := fun c mc => by
      obtain ⟨i, hi⟩ := List.mem_iff_getElem?.mp mc
      exact um i c hi
    have g3' : H3 D = some (.lst ((us.map fun c => [c]).map fun y => V.str (sO y))) := by rw [g3, List.map_map]; rfl
    refine ⟨[], D, _, by rw [empty_eq], rfl, sqL g3', ?_, ?_⟩
    · rw [List.length_map, List.length_nil, Nat.mul_zero]
      have : ∀ l : List Nat, ((l.map fun c => [c]).map List.length).sum = l.length := fun l => by
        induction l with
        | nil => rfl
        | cons c l ih => rw [List.map_cons, List.map_cons, List.sum_cons, ih]; show 1 + l.length = l.length + 1; omega
      rw [this]; omega
    rw [joinL_signs]
    have d03 : Dr s H H3 := d1.trans d3
    tm_at "rzs"
    refine ⟨_, us.length, rfl, ?_, ?_⟩
    · exact ⟨by rw [sO_len, sizeLine_eq]; omega, (sO_len _).symm⟩
    tm_at "rd"
    tm_at "rd"
    refine ⟨d03.s, by omega, by omega, ?_⟩
    intro na H5 d5 l5 u5
    obtain ⟨a, rfl⟩ := Int.eq_ofNat_of_zero_le l5
    have la : a ≤ us.length := by omega
    tm_at "rzs"
    intro sh H6 d6 l6 u6
    tm_at "rzs"
    intro p H7 f7 s7 g7
    have d06 : Dr s H H6 := (d03.trans d5).trans d6
    have d07 : Dr s H H7 := d06.same s7
    have np : p ≠ s := d06.s.ne f7
    have fp : H p = none := d06.free f7 np
    refine ⟨_, rfl, _, rfl, by omega, by omega, ?_⟩
    refine for_range (lo := 0) (n := n) (fun i σ H' => ∃ (v3 v8 v9 : Option V) (ls : List (List Nat)), σ = [some (.ref s), some (.int (n : Int)), some (.str (Str.ofString "abcdefghijklmnopqrstuvwxyz")), v3, some (.str (sO us)), some (.int (a : Int)), some (.int sh), some (.ref p), v8, v9] ∧ Dr s H H' ∧ H' p = some (.lst (ls.map fun l => V.str (sO l))) ∧ ls.Perm ((List.range i).map (nameL us a sh)))
      ⟨_, _, _, [], rfl, d07, g7, .nil⟩ ?_ ?_
    · rintro i σ H8 hi ⟨v3, v8, v9, ls, rfl, d8, g8, pm⟩
      dsimp only [gName]
      rw [Int.zero_add]
      tm_at "rds"
      refine ⟨_, _, letN ((sh + 7 * (i : Int)) % 26), rfl, rfl, Nat.le_of_ble_eq_true rfl, letN_at (Int.emod_nonneg _ (by decide)) (Int.emod_lt_of_pos _ (by decide)), ?_⟩
      tm_at "rd"
      tm_at "rd"
      refine ⟨_, rfl, ?_⟩
      refine ⟨_, rfl, by rw [sO_len, sizeLine_eq]; omega, ?_⟩
      rw [cutS_take]
      tm_at "rd"
      refine ⟨_, _, rfl, rfl, by rw [sO_len, sizeLine_eq, List.length_take]; show _ + 1 ≤ _; omega, ?_⟩
      rw [show (⟨#[letN ((sh + 7 * (i : Int)) % 26)]⟩ : Str) = sO [letN ((sh + 7 * (i : Int)) % 26)] from rfl, sO_append]
      tm_at "rd"
      tm_at "rd"
      refine ⟨_, rfl, ?_⟩
      refine ⟨_, rfl, by rw [sO_len, sizeLine_eq]; omega, ?_⟩
      rw [cutS_dropN _ _ la]
      refine ⟨_, _, rfl, rfl, by rw [sO_len, sO_len, sizeLine_eq, List.length_append, List.length_take, List.length_drop]; show _ + 1 + _ ≤ _; omega, ?_⟩
      rw [sO_append]
      refine ⟨_, rfl, ?_⟩
      refine ⟨_, _, rfl, rfl, (show (0 : Int) < 2 by decide), ?_⟩
      refine ⟨97, i % 2, by rw [show Str.ofString "a" = ⟨#[97]⟩ from by decide +kernel], by rw [Int.natCast_emod]; rfl, by omega, ?_⟩
      refine ⟨_, _, rfl, rfl, by rw [sO_len, sO_len, sizeLine_eq, List.length_append, List.length_append, List.length_take, List.length_drop, List.length_replicate]; show _ + 1 + _ + _ ≤ _; omega, ?_⟩
      rw [sO_append]
      have ln : (nameL us a sh i).length ≤ 8 := (nameL_ok (by omega) um').2.1
      rw [show List.take a us ++ [letN ((sh + 7 * (i : Int)) % 26)] ++ List.drop a us ++ List.replicate (i % 2) 97 = nameL us a sh i from rfl]
      have hll : ls.length = i := by rw [pm.length_eq, List.length_map, List.length_range]
      refine ⟨_, rfl, ?_⟩
      refine ⟨.inl ⟨rfl, _, sqL g8⟩, ?_⟩
      tm_at "rd"
      tm_at "rd"
      tm_at "rd"
      refine ⟨_, _, rfl, d8.s, by omega, by omega, fun pl H9 d9 l9 u9 => ?_⟩
      obtain ⟨j, rfl⟩ := Int.eq_ofNat_of_zero_le l9
      refine ⟨_, rfl, ?_⟩
      refine ⟨p, _, j, _, rfl, rfl, d9.app np g8, by rw [List.length_map, sizeLine_eq]; omega, by omega, by omega, ?_⟩
      refine ⟨_, _, _, ls.take j ++ [nameL us a sh i] ++ ls.drop j, rfl, Dr.mut (d8.trans d9) (But.upd But.refl) fp np.symm, ?_, ?_⟩
      · rw [Int.toNat_natCast, ← List.map_take, ← List.map_drop, List.map_append, List.map_append]
        exact upd_same
      · rw [List.range_succ, List.map_append]
        exact (put_in ls j _).trans (pm.append_right _)
    · rintro σ H8 ⟨v3, v8, v9, ls, rfl, d8, g8, pm⟩
      refine ⟨_, rfl, ?_⟩
      obtain ⟨e1, e2, e3⟩ := names_ok (by omega) um' la hn pm
      exact k p ls H8 d8 np fp g8 e1 e2 e3
end
end My
namespace My
open PySem PySem.Spec PyProof.Rows L2
section
variable {P : Program} {w : World} {K : PySem.W.Frag} {mg : Str → Option Value} {base : Heap}
def sp_w_source (K : PySem.W.Frag) : Sp := fun vs H Q _ => ∃ (a : Addr) (ns : List Int) (k : Nat), vs = [.ref a, .int (k : Int)] ∧ SqL K H a (ns.map V.int) ∧ ns.length ≤ 63 ∧ ∀ (s : Addr) (c : Int) H', Same H H' → H s = none → H' s = some (src (c, c, 0)) → Q (.ref s) H'
theorem ok_w_source (T : Tx w K mg) : FnOk P w K mg base CX0 2 T.d_w_source.f T.d_w_source.fd ["_law_script", "_law_k"] (sp_w_source K) := by
  refine T.d_w_source.F.ok sc_w_source (fun vs H Q E h => ?_) (fun cdv A outer s H vs Q E hr h => ?_)
  · obtain ⟨a, ns, j, rfl, _⟩ := h
    rfl
  · obtain ⟨a, ns, j, rfl, hS, hl, k⟩ := h
    refine ⟨_, (pss_cons (ps_if (pt_cmpR op_lt (pv 1) (pe_callB (call_lenK (K := K) rfl) (by rfl) T.b_len (by decide +kernel) (pa_cons (pv 0) pa_nil)) (nomark _))
      (pss_one (ps_ret (pe_lstA (pa_cons (pe_ix (ix_seqK (K := K) rfl) (pv 0) (pv 1) (fun _ _ => rfl)) (pa_cons (pe_ix (ix_seqK (K := K) rfl) (pv 0) (pv 1) (fun _ _ => rfl)) (pa_cons pe_int pa_nil))))))
      pss_nil)
      (pss_cons (ps_set (i := 2) sc_w_source.nd rfl (Or.inl rfl) (pe_call (ok_w_mixed T) (hr.mono (by decide)) (by rfl) T.d_w_mixed.g T.d_w_mixed.F.kp T.d_w_mixed.b .nil pass0 (pa_cons (pe_call (ok_w_cell_at T) (hr.mono (by decide)) (by rfl) T.d_w_cell_at.g T.d_w_cell_at.F.kp T.d_w_cell_at.b .nil pass0 (pa_cons (pv 0) (pa_cons pe_int pa_nil))) (pa_cons (pe_op op_add pe_int (pv 1)) pa_nil))))
      (pss_one (ps_ret (pe_lstA (pa_cons (pv 2) (pa_cons (pv 2) (pa_cons pe_int pa_nil)))))))), ?_⟩
    tm_at "rds"
    by_cases e : j < ns.length
    · have hj : (ns.map V.int)[j]? = some (.int ns[j]) := by rw [List.getElem?_map, List.getElem?_eq_getElem e]; rfl
      refine iteT' (by rw [List.length_map]; exact decide_eq_true (by omega)) ?_
      tm_at "rd"
      tm_at "rd"
      refine .inl ⟨_, _, _, _, rfl, rfl, hS, atI_nat hj, ?_⟩
      tm_at "rd"
      tm_at "rd"
      refine .inl ⟨_, _, _, _, rfl, rfl, hS, atI_nat hj, ?_⟩
      tm_at "rds"
      intro s H1 f1 s1 g1
      exact k s _ H1 s1 f1 g1
    · refine iteF' (by rw [List.length_map]; exact decide_eq_false (by omega)) ?_
      tm_at "rds"
      intro n n0
      tm_at "rds"
      intro s H1 f1 s1 g1
      exact k s _ H1 s1 f1 g1
end
end My
namespace My
open PySem PySem.Spec PyProof.Rows L2
section
variable {P : Program} {w : World} {K : PySem.W.Frag} {mg : Str → Option Value} {base : Heap}
def sp_w_told : Sp := fun vs H Q _ => ∃ (s pn : Addr) (ns : List (List Nat)) (first : Bool) (loose : Int), vs = [.ref s, .ref pn, .bl first, .int loose] ∧ Src H s ∧ pn ≠ s ∧ H pn = some (.lst (ns.map fun l => V.str (sO l))) ∧ ns ≠ [] ∧ ns.length ≤ 26 ∧ (∀ l ∈ ns, NameOk l) ∧ ∀ (v : V) H', Dr s H H' → SzAt H' v → SzIn ns H' (!first) v → Q v H'
theorem ok_w_told (T : Tx w K mg) : FnOk P w K mg base CX0 3 T.d_w_told.f T.d_w_told.fd ["_law_source_here", "_law_names_here", "_law_first", "_law_loose"] (sp_w_told) := by
  refine T.d_w_told.F.ok sc_w_told (fun vs H Q E h => ?_) (fun cdv A outer s H vs Q E hr h => ?_)
  · obtain ⟨s, pn, ns, first, loose, rfl, _⟩ := h
    rfl
  · obtain ⟨s, pn, ns, first, loose, rfl, hs, np, hp, hne, hl, hok, k⟩ := h
    refine ⟨_, (pss_cons (ps_set (i := 4) sc_w_told.nd rfl (Or.inl rfl) (pe_call (ok_w_next T) (hr.mono (by decide)) (by rfl) T.d_w_next.g T.d_w_next.F.kp T.d_w_next.b .nil pass0 (pa_cons (pv 0) (pa_cons pe_int pa_nil))))
      (pss_cons (ps_if (pt_cmpR op_eq (pv 4) pe_int (nomark _))
      (pss_one (ps_ret (pe_call (ok_w_next T) (hr.mono (by decide)) (by rfl) T.d_w_next.g T.d_w_next.F.kp T.d_w_next.b .nil pass0 (pa_cons (pv 0) (pa_cons pe_int pa_nil)))))
      pss_nil)
      (pss_cons (ps_if (PW.pt (pw_and (pt_cmpR op_eq (pv 4) pe_int (nomark _)) (pw_and (pt_not (pt_val (pv 2))) (pw_and1 (pt_cmpR op_gt (pv 3) pe_int (nomark _))))))
      (pss_one (ps_ret (pe_tupA (pa_cons pe_str (pa_cons (pe_call (ok_w_next T) (hr.mono (by decide)) (by rfl) T.d_w_next.g T.d_w_next.F.kp T.d_w_next.b .nil pass0 (pa_cons (pv 0) (pa_cons pe_int pa_nil))) pa_nil)))))
      pss_nil)
      (pss_cons (ps_if (PW.pt (pw_and (pt_cmpR op_eq (pv 4) pe_int (nomark _)) (pw_and1 (pt_cmpR op_gt (pv 3) pe_int (nomark _)))))
      (pss_cons (ps_set (i := 5) sc_w_told.nd rfl (Or.inl rfl) (pe_ix (ix_listK (K := K) rfl) (pv 1) (pe_call (ok_w_next T) (hr.mono (by decide)) (by rfl) T.d_w_next.g T.d_w_next.F.kp T.d_w_next.b .nil pass0 (pa_cons (pv 0) (pa_cons (pe_callB (call_lenK (K := K) rfl) (by rfl) T.b_len (by decide +kernel) (pa_cons (pv 1) pa_nil)) pa_nil))) (fun _ _ => rfl)))
      (pss_one (ps_ret (pe_tupA (pa_cons pe_str (pa_cons (pv 5) (pa_cons (pe_ix (ix_listK (K := K) rfl) (pe_lstA (pa_cons pe_str (pa_cons pe_str pa_nil))) (pe_call (ok_w_next T) (hr.mono (by decide)) (by rfl) T.d_w_next.g T.d_w_next.F.kp T.d_w_next.b .nil pass0 (pa_cons (pv 0) (pa_cons pe_int pa_nil))) (fun _ _ => rfl)) (pa_cons (pe_op op_sub (pe_call (ok_w_next T) (hr.mono (by decide)) (by rfl) T.d_w_next.g T.d_w_next.F.kp T.d_w_next.b .nil pass0 (pa_cons (pv 0) (pa_cons pe_int pa_nil))) pe_int) pa_nil))))))))
      pss_nil)
      (pss_one (ps_ret pe_non)))))), ?_⟩
    tm_at "rzs"
    intro n1 H1 d1 l1 u1
    tm_at "rds"
    by_cases e0 : n1 = 0
    · subst e0
      tm_at "rzs"
      intro n2 H2 d2 l2 u2
      obtain ⟨m, rfl⟩ := Int.eq_ofNat_of_zero_le l2
      exact k _ _ (d1.trans d2) (.cells m) (.inr (.inl ⟨m, rfl⟩))
    refine iteF' (by rw [int_inj_dec]; exact decide_eq_false e0) ?_
    dsimp only [tNext]
    show tSeq (tIfS _ _ _) _ _ [some (.ref s), some (.ref pn), some (.bl first), some (.int loose), some (.int n1), none] H1
    refine seq_key (M := fun σ H' => σ = [some (.ref s), some (.ref pn), some (.bl first), some (.int loose), some (.int n1), none] ∧ H' = H1) ?rest (fun N hN => ?stm)
    case stm =>
      tm_at "rds"
      by_cases e1 : n1 = 1
      · subst e1
        refine iteT' (by rfl) ?_
        cases first with
        | true =>
          tm_at "rzs"
          exact hN _ _ ⟨rfl, rfl⟩
        | false =>
          tm_at "rzs"
          refine ite2 (fun el => ?_) (fun el => ?_)
          · tm_at "rzs"
            intro n2 H2 d2 l2 u2
            obtain ⟨m, rfl⟩ := Int.eq_ofNat_of_zero_le l2
            tm_at "rzs"
            intro p H3 f3 s3 g3
            exact k _ _ ((d1.trans d2).same s3) (.part p m g3) (.inr (.inr (.inl ⟨rfl, p, m, rfl, g3⟩)))
          · tm_at "rzs"
            exact hN _ _ ⟨rfl, rfl⟩
      · refine iteF' (by rw [int_inj_dec]; exact decide_eq_false e1) ?_
        exact hN _ _ ⟨rfl, rfl⟩
    rintro σ H' ⟨rfl, rfl⟩
    show tSeq (tIfS _ _ _) _ _ [some (.ref s), some (.ref pn), some (.bl first), some (.int loose), some (.int n1), none] H'
    refine seq_key (M := fun σ H' => (∃ v5 : Option V, σ = [some (.ref s), some (.ref pn), some (.bl first), some (.int loose), some (.int n1), v5]) ∧ Dr s H H') ?rest2 (fun N hN => ?stm2)
    case stm2 =>
      tm_at "rds"
      by_cases e2 : n1 = 2
      · subst e2
        refine iteT' (by rfl) ?_
        tm_at "rzs"
        refine ite2 (fun el => ?_) (fun el => ?_)
        · have hp1 := d1.app np hp
          have hpos : 0 < ns.length := List.length_pos_iff.mpr hne
          tm_at "rzs"
          refine ⟨by rw [List.length_map]; omega, by rw [List.length_map]; omega, fun n3 H3 d3 l3 u3 => ?_⟩
          obtain ⟨j, rfl⟩ := Int.eq_ofNat_of_zero_le l3
          rw [List.length_map] at u3
          have hj : j < ns.length := by omega
          have hp3 := d3.app np hp1
          have hat : (ns.map fun l => V.str (sO l))[j]? = some (.str (sO ns[j])) := by rw [List.getElem?_map, List.getElem?_eq_getElem hj]; rfl
          refine ⟨_, _, _, _, rfl, rfl, sqL hp3, atI_nat hat, ?_⟩
          have ml : ns[j] ∈ ns := List.getElem_mem hj
          tm_at "rzs"
          intro p6 H6 f6 s6 g6
          have np6 : p6 ≠ s := d3.s.ne f6
          have hs6 := d3.s.same s6
          tm_at "rzs"
          intro n7 H7 d7 l7 u7
          obtain ⟨x, hx, sd, rfl, hsd⟩ := pick2 (P := fun v => ∃ z : String, v = sX z ∧ (z = "wide" ∨ z = "tall")) l7 u7 (a := sX "wide") (b := sX "tall") ⟨_, rfl, .inl rfl⟩ ⟨_, rfl, .inr rfl⟩
          refine ⟨_, _, _, _, rfl, rfl, sqL (d7.app np6 g6), hx, ?_⟩
          tm_at "rzs"
          intro n8 H8 d8 l8 u8
          tm_at "rzs"
          intro p9 H9 f9 s9 g9
          exact k _ _ (((((d1.trans d3).same s6).trans d7).trans d8).same s9) (.tie p9 ns[j] sd _ (hok _ ml) hsd g9) (.inr (.inr (.inr ⟨p9, ns[j], sd, _, rfl, g9, ml⟩)))
        · tm_at "rzs"
          exact hN _ _ ⟨⟨_, rfl⟩, d1⟩
      · refine iteF' (by rw [int_inj_dec]; exact decide_eq_false e2) ?_
        exact hN _ _ ⟨⟨_, rfl⟩, d1⟩
    rintro σ H' ⟨⟨v5, rfl⟩, d⟩
    tm_at "rzs"
    exact k _ _ d .non (.inl rfl)
end
end My
namespace My
open PySem PySem.Spec PyProof.Rows L2
section
variable {P : Program} {w : World} {K : PySem.W.Frag} {mg : Str → Option Value} {base : Heap}
def sp_w_looks (K : PySem.W.Frag) : Sp := fun vs H Q _ => ∃ (s pn : Addr) (ns : List (List Nat)) (first : Bool) (loose : Int), vs = [.ref s, .ref pn, .bl first, .int loose] ∧ Src H s ∧ pn ≠ s ∧ H pn = some (.lst (ns.map fun l => V.str (sO l))) ∧ ns ≠ [] ∧ ns.length ≤ 26 ∧ (∀ l ∈ ns, NameOk l) ∧
  ∀ (p : Addr) (st : List V) H', Dr s H H' → H p = none → p ≠ s → H' p = some (.lst st) → OkL K H' st → SzIn ns H' (!first) (st.getD 0 .non) → SzIn ns H' (!first) (st.getD 1 .non) → Q (.ref p) H'
theorem ok_w_looks (T : Tx w K mg) : FnOk P w K mg base CX0 4 T.d_w_looks.f T.d_w_looks.fd ["_law_source_here", "_law_names_here", "_law_first", "_law_loose"] (sp_w_looks K) := by
  refine T.d_w_looks.F.ok sc_w_looks (fun vs H Q E h => ?_) (fun cdv A outer s H vs Q E hr h => ?_)
  · obtain ⟨s, pn, ns, first, loose, rfl, _⟩ := h
    rfl
  · obtain ⟨s, pn, ns, first, loose, rfl, hs, np, hp, hne, hl, hok, k⟩ := h
    refine ⟨_, (pss_cons (ps_set (i := 4) sc_w_looks.nd rfl (Or.inl rfl) (pe_lstA (pa_cons (pe_call (ok_w_told T) (hr.mono (by decide)) (by rfl) T.d_w_told.g T.d_w_told.F.kp T.d_w_told.b .nil pass0 (pa_cons (pv 0) (pa_cons (pv 1) (pa_cons (pv 2) (pa_cons (pv 3) pa_nil))))) (pa_cons (pe_call (ok_w_told T) (hr.mono (by decide)) (by rfl) T.d_w_told.g T.d_w_told.F.kp T.d_w_told.b .nil pass0 (pa_cons (pv 0) (pa_cons (pv 1) (pa_cons (pv 2) (pa_cons (pv 3) pa_nil))))) pa_nil))))
      (pss_cons (ps_for PassesOwn.never (by rfl) (pi_range1 (by rfl) T.b_range (pa_cons pe_int pa_nil)) (pg_name (i := 5) sc_w_looks.nd rfl (Or.inl rfl))
      (pss_one (ps_expr (pe_bm PySem.F.plainAttrs_list PySem.F.slot_list_append PySem.F.type_list_append mt_appendA (pv 4) (pa_cons (pe_ix (ix_listK (K := K) rfl) (pe_lstA (pa_cons pe_non (pa_cons pe_non (pa_cons pe_non (pa_cons (pe_call (ok_w_next T) (hr.mono (by decide)) (by rfl) T.d_w_next.g T.d_w_next.F.kp T.d_w_next.b .nil pass0 (pa_cons (pv 0) (pa_cons pe_int pa_nil))) pa_nil))))) (pe_call (ok_w_next T) (hr.mono (by decide)) (by rfl) T.d_w_next.g T.d_w_next.F.kp T.d_w_next.b .nil pass0 (pa_cons (pv 0) (pa_cons pe_int pa_nil))) (fun _ _ => rfl)) pa_nil)))))
      (pss_cons (ps_set (i := 4) sc_w_looks.nd rfl (Or.inl rfl) (pe_op (op_catK (K := K) rfl) (pv 4) (pe_lstA (pa_cons (pe_call (ok_w_next T) (hr.mono (by decide)) (by rfl) T.d_w_next.g T.d_w_next.F.kp T.d_w_next.b .nil pass0 (pa_cons (pv 0) (pa_cons pe_int pa_nil))) (pa_cons (pe_call (ok_w_next T) (hr.mono (by decide)) (by rfl) T.d_w_next.g T.d_w_next.F.kp T.d_w_next.b .nil pass0 (pa_cons (pv 0) (pa_cons pe_int pa_nil))) pa_nil)))))
      (pss_cons (ps_expr (pe_bm PySem.F.plainAttrs_list PySem.F.slot_list_append PySem.F.type_list_append mt_appendA (pv 4) (pa_cons (pe_ix (ix_listK (K := K) rfl) (pe_lstA (pa_cons (pe_tupA (pa_cons pe_int (pa_cons pe_int (pa_cons pe_int (pa_cons pe_int pa_nil))))) (pa_cons (pe_tupA (pa_cons pe_int (pa_cons pe_int (pa_cons pe_int (pa_cons pe_int pa_nil))))) (pa_cons (pe_tupA (pa_cons pe_int (pa_cons pe_int (pa_cons pe_int (pa_cons pe_int pa_nil))))) pa_nil)))) (pe_call (ok_w_next T) (hr.mono (by decide)) (by rfl) T.d_w_next.g T.d_w_next.F.kp T.d_w_next.b .nil pass0 (pa_cons (pv 0) (pa_cons pe_int pa_nil))) (fun _ _ => rfl)) pa_nil)))
      (pss_cons (ps_expr (pe_bm PySem.F.plainAttrs_list PySem.F.slot_list_append PySem.F.type_list_append mt_appendA (pv 4) (pa_cons (pe_ix (ix_listK (K := K) rfl) (pe_lstA (pa_cons pe_non (pa_cons pe_non (pa_cons pe_str (pa_cons pe_str (pa_cons pe_str (pa_cons pe_str (pa_cons pe_str pa_nil)))))))) (pe_call (ok_w_next T) (hr.mono (by decide)) (by rfl) T.d_w_next.g T.d_w_next.F.kp T.d_w_next.b .nil pass0 (pa_cons (pv 0) (pa_cons pe_int pa_nil))) (fun _ _ => rfl)) pa_nil)))
      (pss_one (ps_ret (pv 4)))))))), ?_⟩
    tm_at "rzs"
    refine ⟨s, pn, ns, first, loose, rfl, hs, np, hp, hne, hl, hok, fun w H1 d1 zw iw => ?_⟩
    tm_at "rzs"
    refine ⟨s, pn, ns, first, loose, rfl, d1.s, np, d1.app np hp, hne, hl, hok, fun h H2 d2 zh ih => ?_⟩
    tm_at "rzs"
    intro p H3 f3 s3 g3
    have d03 : Dr s H H3 := (d1.trans d2).same s3
    have npp : p ≠ s := d2.s.ne f3
    have fp : H p = none := (d1.trans d2).free f3 npp
    have kk1 : KeepS H1 H3 := (d2.ks d1.s).same s3
    have kk2 : KeepS H2 H3 := Same.ks s3
    have zw := kk1.szAt zw
    have iw := iw.ks kk1
    have zh := kk2.szAt zh
    have ih := ih.ks kk2
    dsimp only [gName]
    tm_at "rds"
    refine for_range (lo := 0) (n := 4) (fun i σ H' => ∃ (v5 : Option V) (bs : List V), σ = [some (.ref s), some (.ref pn), some (.bl first), some (.int loose), some (.ref p), v5] ∧ Dr s H H' ∧ KeepS H3 H' ∧ H' p = some (.lst (w :: h :: bs)) ∧ bs.length = i ∧ ∀ b ∈ bs, BdAt b)
      ⟨_, [], rfl, d03, KeepS.refl, g3, rfl, fun b m => by cases m⟩ ?_ ?_
    · rintro i σ H4 hi ⟨v5, bs, rfl, d4, kk4, g4, lb, hb⟩
      dsimp only [gName]
      tm_at "rzs"
      intro n5 H5 d5 l5 u5
      tm_at "rzs"
      intro q6 H6 f6 s6 g6
      have nq6 : q6 ≠ s := d5.s.ne f6
      have hs6 := d5.s.same s6
      tm_at "rzs"
      intro n7 H7 d7 l7 u7
      obtain ⟨m5, rfl⟩ := Int.eq_ofNat_of_zero_le l5
      obtain ⟨x, hx, hbx⟩ := pick4 (P := BdAt) l7 u7 (.inl rfl) (.inl rfl) (.inl rfl) (.inr ⟨m5, rfl⟩)
      refine ⟨_, _, _, _, rfl, rfl, sqL (d7.app nq6 g6), hx, ?_⟩
      have g7 := d7.app npp (s6 _ _ (d5.app npp g4))
      have kk7 : KeepS H3 H7 := ((kk4.trans (d5.ks d4.s)).same s6).trans (d7.ks hs6)
      refine ⟨_, _, _, rfl, rfl, g7, by rw [List.length_cons, List.length_cons, sizeLine_eq]; omega, fun H8 b8 g8 => ?_⟩
      refine ⟨_, bs ++ [x], rfl, ((((d4.trans d5).same s6).trans d7).mut b8 fp npp.symm), kk7.butL b8 g7, by rw [g8]; rfl, by rw [List.length_append, lb]; rfl, fun b m => ?_⟩
      rcases List.mem_append.mp m with m | m
      · exact hb b m
      · rw [List.mem_singleton.mp m]; exact hbx
    · rintro σ H4 ⟨v5, bs, rfl, d4, kk4, g4, lb, hb⟩
      obtain ⟨b0, b1, b2, b3, rfl⟩ := four lb
      tm_at "rzs"
      intro n5 H5 d5 l5 u5
      tm_at "rzs"
      intro n6 H6 d6 l6 u6
      tm_at "rzs"
      intro q7 H7 f7 s7 g7
      have d47 := (d5.trans d6).same s7
      have g47 := s7 _ _ (d6.app npp (d5.app npp g4))
      obtain ⟨m5, rfl⟩ := Int.eq_ofNat_of_zero_le l5
      obtain ⟨m6, rfl⟩ := Int.eq_ofNat_of_zero_le l6
      refine ⟨_, _, _, _, rfl, rfl, g47, g7, Nat.le_of_ble_eq_true rfl, fun p8 H8 f8 s8 g8 => ?_⟩
      have d48 := d47.same s8
      have d08 := d4.trans d48
      have np8 : p8 ≠ s := (d4.trans d47).s.ne f8
      have fp8 : H p8 = none := (d4.trans d47).free f8 np8
      have kk8 : KeepS H3 H8 := kk4.trans (d48.ks d4.s)
      dsimp only [gName]
      tm_at "rzs"
      intro r0 H9 f9 s9 g9
      tm_at "rzs"
      intro r1 H10 f10 s10 g10
      tm_at "rzs"
      intro r2 H11 f11 s11 g11
      tm_at "rzs"
      intro q12 H12 f12 s12 g12
      have s812 := ((s9.trans s10).trans s11).trans s12
      have hs12 := d08.s.same s812
      have nq12 : q12 ≠ s := (((d08.s.same s9).same s10).same s11).ne f12
      tm_at "rzs"
      intro n13 H13 d13 l13 u13
      have gr0 := d13.app (d08.s.ne f9) (s12 _ _ (s11 _ _ (s10 _ _ g9)))
      have gr1 := d13.app ((d08.s.same s9).ne f10) (s12 _ _ (s11 _ _ g10))
      have gr2 := d13.app (((d08.s.same s9).same s10).ne f11) (s12 _ _ g11)
      obtain ⟨x, hx, hrm⟩ := pick3 (P := RmAt K H13) l13 u13 (RmAt.of (n0 := 0) (n1 := 0) (n2 := 0) (n3 := 0) gr0) (RmAt.of (n0 := 1) (n1 := 2) (n2 := 1) (n3 := 0) gr1) (RmAt.of (n0 := 0) (n1 := 3) (n2 := 0) (n3 := 2) gr2)
      refine ⟨_, _, _, _, rfl, rfl, sqL (d13.app nq12 g12), hx, ?_⟩
      have g813 := d13.app np8 (s812 _ _ g8)
      refine ⟨_, _, _, rfl, rfl, g813, Nat.le_of_ble_eq_true rfl, fun H14 b14 g14 => ?_⟩
      have d013 : Dr s H H13 := (d08.same s812).trans d13
      have d014 : Dr s H H14 := d013.mut b14 fp8 np8.symm
      have kk14 : KeepS H3 H14 := ((kk8.same s812).trans (d13.ks hs12)).butL b14 g813
      have hrm14 : RmAt K H14 x := hrm.but b14 g813
      tm_at "rzs"
      intro q15 H15 f15 s15 g15
      have nq15 : q15 ≠ s := d014.s.ne f15
      have hs15 := d014.s.same s15
      tm_at "rzs"
      intro n16 H16 d16 l16 u16
      obtain ⟨y, hy, hst⟩ := pickL (P := StAt) l16 u16 (xs := [.non, .non, sX "start", sX "end", sX "middle", sX "stretch", sX "base"]) (fun y m => by
        simp only [List.mem_cons, List.not_mem_nil, or_false] at m
        rcases m with rfl | rfl | rfl | rfl | rfl | rfl | rfl
        · exact .inl rfl
        · exact .inl rfl
        all_goals exact .inr ⟨_, by simp [stands5], rfl⟩)
      refine ⟨_, _, _, _, rfl, rfl, sqL (d16.app nq15 g15), hy, ?_⟩
      have g816 := d16.app np8 (s15 _ _ g14)
      refine ⟨_, _, _, rfl, rfl, g816, Nat.le_of_ble_eq_true rfl, fun H17 b17 g17 => ?_⟩
      have d017 : Dr s H H17 := ((d014.same s15).trans d16).mut b17 fp8 np8.symm
      have kk1417 : KeepS H14 H17 := ((Same.ks s15).trans (d16.ks hs15)).butL b17 g816
      have kk17 : KeepS H3 H17 := kk14.trans kk1417
      tm_at "rzs"
      have hrm17 : RmAt K H17 x := by
        obtain ⟨a, m0, m1, m2, m3, e, gx⟩ := hrm14
        exact ⟨a, m0, m1, m2, m3, e, kk1417.sqT gx⟩
      exact k p8 _ H17 d017 fp8 np8 g17 (okL_mk (kk17.szAt zw) (kk17.szAt zh) (hb b0 (by simp)) (hb b1 (by simp)) (hb b2 (by simp)) (hb b3 (by simp)) (ctN m5) (ctN m6) hrm17 hst) (iw.ks kk17) (ih.ks kk17)
end
end My
namespace My
open PySem PySem.Spec PyProof.Rows L2
section
variable {P : Program} {w : World} {K : PySem.W.Frag} {mg : Str → Option Value} {base : Heap}
def sp_w_style (K : PySem.W.Frag) (S : Addr) : Sp := fun vs H Q _ => ∃ (p : Addr) (st : List V), vs = [.ref p] ∧ H p = some (.lst st) ∧ OkL K H st ∧ ∀ (y dy : Addr) H', Same H H' → H y = none → H' y = some (.ins S dy (styL st)) → Q (.ref y) H'
theorem ok_w_style (T : Tx w K mg) : FnOk P w K mg base CX0 6 T.d_w_style.f T.d_w_style.fd ["_law_one"] (sp_w_style K T.c_Style.C) := by
  refine T.d_w_style.F.ok sc_w_style (fun vs H Q E h => ?_) (fun cdv A outer s H vs Q E hr h => ?_)
  · obtain ⟨p, st, rfl, _⟩ := h
    rfl
  · obtain ⟨p, st, rfl, hp, ok, k⟩ := h
    obtain ⟨w, h, lw, lh, mw, mh, g, s', r, q, rfl⟩ := ten ok.1
    refine ⟨_, (pss_one (ps_ret (pe_makeK0 T.d_Style_init.mks (ok_Style_init T) (hr.mono (by decide)) (by rfl) T.c_Style.g (Classical.choose_spec (kb_Style_init_1_wide_high_least_wide_least_high_most_wide_most_high_grow_shrink_rims_stand T)) pass0 (pk_cons (pe_ix (ix_listK (K := K) rfl) (pv 0) pe_int (fun _ _ => rfl)) (pk_cons (pe_ix (ix_listK (K := K) rfl) (pv 0) pe_int (fun _ _ => rfl)) (pk_cons (pe_ix (ix_listK (K := K) rfl) (pv 0) pe_int (fun _ _ => rfl)) (pk_cons (pe_ix (ix_listK (K := K) rfl) (pv 0) pe_int (fun _ _ => rfl)) (pk_cons (pe_ix (ix_listK (K := K) rfl) (pv 0) pe_int (fun _ _ => rfl)) (pk_cons (pe_ix (ix_listK (K := K) rfl) (pv 0) pe_int (fun _ _ => rfl)) (pk_cons (pe_ix (ix_listK (K := K) rfl) (pv 0) pe_int (fun _ _ => rfl)) (pk_cons (pe_ix (ix_listK (K := K) rfl) (pv 0) pe_int (fun _ _ => rfl)) (pk_cons (pe_ix (ix_listK (K := K) rfl) (pv 0) pe_int (fun _ _ => rfl)) (pk_cons (pe_ix (ix_listK (K := K) rfl) (pv 0) pe_int (fun _ _ => rfl)) pk_nil))))))))))))), ?_⟩
    tm_at "rzs"
    exact mk_style ok k
end
end My
namespace My
open PySem PySem.Spec PyProof.Rows L2
section
variable {P : Program} {w : World} {K : PySem.W.Frag} {mg : Str → Option Value} {base : Heap}
def sp_w_box (bc : Kd → Addr) (S : Addr) (K : PySem.W.Frag) : Sp := fun vs H Q _ => ∃ (s a l : Addr) (nm : List Nat) (ks : List At) (st : List V), vs = [.ref s, .str (sO nm), .ref a, .ref l] ∧ Src H s ∧ NameOk nm ∧ a ≠ s ∧ l ≠ s ∧ H a = some (.lst (refs ks)) ∧ ks.length ≤ 40 ∧ (∀ k ∈ ks, BoxAt bc S K H k) ∧ H l = some (.lst st) ∧ OkL K H st ∧
  ∀ (r x : Addr) (ow : String) (tn : Bool) (o : Own) H', Dr s H H' → H x = none → H' r = some (.tup [sX (kdW o.kd), sX ow, .bl tn, .ref x]) → BoxAt bc S K H' (.mk x nm st o ks) → OwnIs o ow tn → Q (.ref r) H'
theorem ok_w_box (T : Tx w K mg) : FnOk P w K mg base CX0 9 T.d_w_box.f T.d_w_box.fd ["_law_source_here", "_law_name", "_law_inner", "_law_looks_here"] (sp_w_box (bcT T) T.c_Style.C K) := by
  refine T.d_w_box.F.ok sc_w_box (fun vs H Q E h => ?_) (fun cdv A outer s H vs Q E hr h => ?_)
  · obtain ⟨s, a, l, nm, ks, st, rfl, _⟩ := h
    rfl
  · obtain ⟨s, a, l, nm, ks, st, rfl, hs, hn, na, nl, ha, hlk, hks, hl, ok, k⟩ := h
    refine ⟨_, (pss_cons (ps_set (i := 4) sc_w_box.nd rfl (Or.inl rfl) (pe_ix (ix_listK (K := K) rfl) (pe_lstA (pa_cons pe_str (pa_cons pe_str (pa_cons pe_str (pa_cons pe_str (pa_cons pe_str (pa_cons pe_str pa_nil))))))) (pe_call (ok_w_next T) (hr.mono (by decide)) (by rfl) T.d_w_next.g T.d_w_next.F.kp T.d_w_next.b .nil pass0 (pa_cons (pv 0) (pa_cons pe_int pa_nil))) (fun _ _ => rfl)))
      (pss_cons (ps_if (pt_cmpR (op_ne0K (K := K) hr.units rfl) (pv 2) (pe_lstA pa_nil) (nomark _))
      (pss_one (ps_set (i := 4) sc_w_box.nd rfl (Or.inl rfl) (pe_ix (ix_listK (K := K) rfl) (pe_lstA (pa_cons pe_str (pa_cons pe_str (pa_cons pe_str (pa_cons pe_str pa_nil))))) (pe_call (ok_w_next T) (hr.mono (by decide)) (by rfl) T.d_w_next.g T.d_w_next.F.kp T.d_w_next.b .nil pass0 (pa_cons (pv 0) (pa_cons pe_int pa_nil))) (fun _ _ => rfl))))
      pss_nil)
      (pss_cons (ps_set (i := 5) sc_w_box.nd rfl (Or.inl rfl) (pe_ix (ix_listK (K := K) rfl) (pe_lstA (pa_cons pe_str (pa_cons pe_str (pa_cons pe_str (pa_cons pe_str (pa_cons pe_str pa_nil)))))) (pe_call (ok_w_next T) (hr.mono (by decide)) (by rfl) T.d_w_next.g T.d_w_next.F.kp T.d_w_next.b .nil pass0 (pa_cons (pv 0) (pa_cons pe_int pa_nil))) (fun _ _ => rfl)))
      (pss_cons (ps_set (i := 6) sc_w_box.nd rfl (Or.inl rfl) (pe_cmpR op_eq (pe_call (ok_w_next T) (hr.mono (by decide)) (by rfl) T.d_w_next.g T.d_w_next.F.kp T.d_w_next.b .nil pass0 (pa_cons (pv 0) (pa_cons pe_int pa_nil))) pe_int (nomark _)))
      (pss_cons (ps_set (i := 7) sc_w_box.nd rfl (Or.inl rfl) (pe_call (ok_w_next T) (hr.mono (by decide)) (by rfl) T.d_w_next.g T.d_w_next.F.kp T.d_w_next.b .nil pass0 (pa_cons (pv 0) (pa_cons pe_int pa_nil))))
      (pss_cons (ps_set (i := 8) sc_w_box.nd rfl (Or.inl rfl) (pe_ix (ix_listK (K := K) rfl) (pe_lstA (pa_cons pe_str (pa_cons pe_str (pa_cons pe_str (pa_cons pe_str pa_nil))))) (pe_call (ok_w_next T) (hr.mono (by decide)) (by rfl) T.d_w_next.g T.d_w_next.F.kp T.d_w_next.b .nil pass0 (pa_cons (pv 0) (pa_cons pe_int pa_nil))) (fun _ _ => rfl)))
      (pss_cons (ps_set (i := 9) sc_w_box.nd rfl (Or.inl rfl) (pe_call (ok_w_style T) (hr.mono (by decide)) (by rfl) T.d_w_style.g T.d_w_style.F.kp T.d_w_style.b .nil pass0 (pa_cons (pv 3) pa_nil)))
      (pss_cons (ps_if (pt_cmpR op_eq (pv 4) pe_str (nomark _))
      (pss_cons (ps_set (i := 10) sc_w_box.nd rfl (Or.inl rfl) (pe_ix (ix_listK (K := K) rfl) (pe_lstA (pa_cons pe_str (pa_cons pe_str (pa_cons pe_str (pa_cons pe_str pa_nil))))) (pe_call (ok_w_next T) (hr.mono (by decide)) (by rfl) T.d_w_next.g T.d_w_next.F.kp T.d_w_next.b .nil pass0 (pa_cons (pv 0) (pa_cons pe_int pa_nil))) (fun _ _ => rfl)))
      (pss_one (ps_ret (pe_tupA (pa_cons (pv 4) (pa_cons (pv 5) (pa_cons (pv 6) (pa_cons (pe_makeK (n := 2) T.d_Words_init.mks (ok_Words_init T) (hr.mono (by decide)) (by rfl) T.c_Words.g (Classical.choose_spec (kb_Words_init_3_style T)) pass0 (pa_cons (pv 1) (pa_cons (pv 10) pa_nil)) (pk_cons (pv 9) pk_nil)) pa_nil))))))))
      pss_nil)
      (pss_cons (ps_if (pt_cmpR op_eq (pv 4) pe_str (nomark _))
      (pss_one (ps_ret (pe_tupA (pa_cons (pv 4) (pa_cons (pv 5) (pa_cons (pv 6) (pa_cons (pe_makeK (n := 3) T.d_Picture_init.mks (ok_Picture_init T) (hr.mono (by decide)) (by rfl) T.c_Picture.g (Classical.choose_spec (kb_Picture_init_4_style T)) pass0 (pa_cons (pv 1) (pa_cons (pe_op op_add pe_int (pe_call (ok_w_next T) (hr.mono (by decide)) (by rfl) T.d_w_next.g T.d_w_next.F.kp T.d_w_next.b .nil pass0 (pa_cons (pv 0) (pa_cons pe_int pa_nil)))) (pa_cons (pe_op op_add pe_int (pe_call (ok_w_next T) (hr.mono (by decide)) (by rfl) T.d_w_next.g T.d_w_next.F.kp T.d_w_next.b .nil pass0 (pa_cons (pv 0) (pa_cons pe_int pa_nil)))) pa_nil))) (pk_cons (pv 9) pk_nil)) pa_nil)))))))
      pss_nil)
      (pss_cons (ps_if (pt_cmpR op_eq (pv 4) pe_str (nomark _))
      (pss_one (ps_ret (pe_tupA (pa_cons (pv 4) (pa_cons (pv 5) (pa_cons (pv 6) (pa_cons (pe_makeK (n := 2) T.d_Row_init.mks (ok_Row_init T) (hr.mono (by decide)) (by rfl) T.c_Row.g (Classical.choose_spec (kb_Row_init_3_turn_gap_lane_pack_stands_style T)) pass0 (pa_cons (pv 1) (pa_cons (pv 2) pa_nil)) (pk_cons (pv 6) (pk_cons (pv 7) (pk_cons pe_int (pk_cons (pv 8) (pk_cons (pv 5) (pk_cons (pv 9) pk_nil))))))) pa_nil)))))))
      pss_nil)
      (pss_cons (ps_if (pt_cmpR op_eq (pv 4) pe_str (nomark _))
      (pss_one (ps_ret (pe_tupA (pa_cons (pv 4) (pa_cons (pv 5) (pa_cons (pv 6) (pa_cons (pe_makeK (n := 2) T.d_Pile_init.mks (ok_Pile_init T) (hr.mono (by decide)) (by rfl) T.c_Pile.g (Classical.choose_spec (kb_Pile_init_3_gap_pack_stands_style T)) pass0 (pa_cons (pv 1) (pa_cons (pv 2) pa_nil)) (pk_cons (pv 7) (pk_cons (pv 8) (pk_cons (pv 5) (pk_cons (pv 9) pk_nil))))) pa_nil)))))))
      pss_nil)
      (pss_cons (ps_set (i := 11) sc_w_box.nd rfl (Or.inr rfl) (pe_op op_add pe_int (pe_call (ok_w_next T) (hr.mono (by decide)) (by rfl) T.d_w_next.g T.d_w_next.F.kp T.d_w_next.b .nil pass0 (pa_cons (pv 0) (pa_cons pe_int pa_nil)))))
      (pss_cons (ps_setLc (i := 12) (own := [("_law_k", 16)]) (g := gName 16) (by rfl) sc_w_box.nd rfl rfl (sw_true rfl rfl rfl (by decide +kernel)) (pi_range1 (by rfl) T.b_range (pa_cons (pe_callB (call_lenK (K := K) rfl) (by rfl) T.b_len (by decide +kernel) (pa_cons (pv 2) pa_nil)) pa_nil)) (blkOk_by (own := [("_law_k", 16)]) (N := N_w_box) (sc := defScope s_w_box) (by decide +kernel)) (fun _ _ _ _ _ => (pg_name (i := 16) sc_w_box.nd rfl (Or.inl rfl))) (fun _ _ _ _ _ => pts_nil) (fun _ _ _ _ _ => (pe_tupA (pa_cons (pe_op op_mod (pv 16) (pv 11)) (pa_cons (pe_op op_fdivW (pv 16) (pv 11)) (pa_cons pe_int (pa_cons pe_int pa_nil)))))))
      (pss_cons (ps_set (i := 13) sc_w_box.nd rfl (Or.inl rfl) (pe_slice (sl_listK (K := K) rfl) (pe_lstA (pa_cons pe_str (pa_cons (pe_tupA (pa_cons pe_str (pa_cons pe_int pa_nil))) (pa_cons pe_int pa_nil)))) po_none (po_some (pv 11))))
      (pss_cons (ps_setLc (i := 14) (own := [("_law_k", 16)]) (g := gName 16) (by rfl) sc_w_box.nd rfl rfl (sw_true rfl rfl rfl (by decide +kernel)) (pi_range1 (by rfl) T.b_range (pa_cons (pe_op op_add pe_int (pe_op op_fdivW (pe_callB (call_lenK (K := K) rfl) (by rfl) T.b_len (by decide +kernel) (pa_cons (pv 2) pa_nil)) (pv 11))) pa_nil)) (blkOk_by (own := [("_law_k", 16)]) (N := N_w_box) (sc := defScope s_w_box) (by decide +kernel)) (fun _ _ _ _ _ => (pg_name (i := 16) sc_w_box.nd rfl (Or.inl rfl))) (fun _ _ _ _ _ => pts_nil) (fun _ _ _ _ _ => (pe_ix (ix_listK (K := K) rfl) (pe_lstA (pa_cons pe_str (pa_cons (pe_tupA (pa_cons pe_str (pa_cons pe_int pa_nil))) (pa_cons pe_int pa_nil)))) (pe_call (ok_w_next T) (hr.mono (by decide)) (by rfl) T.d_w_next.g T.d_w_next.F.kp T.d_w_next.b .nil pass0 (pa_cons (pv 0) (pa_cons pe_int pa_nil))) (fun _ _ => rfl))))
      (pss_cons (ps_set (i := 15) sc_w_box.nd rfl (Or.inl rfl) (pe_makeK (n := 3) T.d_Grid_init.mks (ok_Grid_init T) (hr.mono (by decide)) (by rfl) T.c_Grid.g (Classical.choose_spec (kb_Grid_init_4_columns_rows_gap_lane_stands_style T)) pass0 (pa_cons (pv 1) (pa_cons (pv 2) (pa_cons (pv 12) pa_nil))) (pk_cons (pv 13) (pk_cons (pv 14) (pk_cons (pv 7) (pk_cons pe_int (pk_cons (pv 5) (pk_cons (pv 9) pk_nil))))))))
      (pss_one (ps_ret (pe_tupA (pa_cons (pv 4) (pa_cons (pv 5) (pa_cons (pv 6) (pa_cons (pv 15) pa_nil))))))))))))))))))))))), ?_⟩
    have st10 := ok.1
    tm_at "rzs"
    intro p1 H1 f1 s1 g1
    have n1 : p1 ≠ s := hs.ne f1
    have hs1 := hs.same s1
    tm_at "rzs"
    intro z2 H2 d2 l2 u2
    obtain ⟨kv, hx, kd0, rfl⟩ := pickL (P := fun v => ∃ kd : Kd, v = sX (kdW kd)) l2 u2 (xs := [sX "words", sX "words", sX "picture", sX "words", sX "row", sX "grid"]) (fun y m => by
      simp only [List.mem_cons, List.not_mem_nil, or_false] at m
      rcases m with rfl | rfl | rfl | rfl | rfl | rfl
      · exact ⟨.words, rfl⟩
      · exact ⟨.words, rfl⟩
      · exact ⟨.picture, rfl⟩
      · exact ⟨.words, rfl⟩
      · exact ⟨.row, rfl⟩
      · exact ⟨.grid, rfl⟩)
    refine ⟨_, _, _, _, rfl, rfl, sqL (d2.app n1 g1), hx, ?_⟩
    have d02 : Dr s H H2 := (Dr.of hs s1).trans d2
    dsimp only [gName]
    show tSeq (tIfS _ _ _) _ _ [some (.ref s), some (.str (sO nm)), some (.ref a), some (.ref l), some (sX (kdW kd0)), none, none, none, none, none, none, none, none, none, none, none, none] H2
    refine seq_key (M := fun σ H' => ∃ kd : Kd, σ = [some (.ref s), some (.str (sO nm)), some (.ref a), some (.ref l), some (sX (kdW kd)), none, none, none, none, none, none, none, none, none, none, none, none] ∧ Dr s H H' ∧ (ks ≠ [] → kd ≠ .words ∧ kd ≠ .picture)) ?rest (fun N hN => ?stm)
    case stm =>
      tm_at "rds"
      intro pe He fe se ge
      refine ⟨pe, rfl, sqL ge, .inr ⟨a, refs ks, rfl, sqL (se _ _ (d02.app na ha)), ?_⟩⟩
      have dHe := d02.same se
      by_cases e0 : ks = []
      · refine ⟨_, rfl, ?_⟩
        refine iteF' (by rw [e0]; rfl) ?_
        exact hN _ _ ⟨kd0, rfl, dHe, fun z => absurd e0 z⟩
      · refine ⟨_, rfl, ?_⟩
        refine iteT' (by cases ks with | nil => exact absurd rfl e0 | cons _ _ => rfl) ?_
        tm_at "rzs"
        intro q Hq fq sq gq
        have nq : q ≠ s := dHe.s.ne fq
        have hsq := dHe.s.same sq
        tm_at "rzs"
        intro z3 H3 d3 l3 u3
        obtain ⟨kv, hx, kd1, rfl, hk1⟩ := pickL (P := fun v => ∃ kd : Kd, v = sX (kdW kd) ∧ kd ≠ .words ∧ kd ≠ .picture) l3 u3 (xs := [sX "row", sX "row", sX "pile", sX "grid"]) (fun y m => by
          simp only [List.mem_cons, List.not_mem_nil, or_false] at m
          rcases m with rfl | rfl | rfl | rfl
          · exact ⟨.row, rfl, by decide, by decide⟩
          · exact ⟨.row, rfl, by decide, by decide⟩
          · exact ⟨.pile, rfl, by decide, by decide⟩
          · exact ⟨.grid, rfl, by decide, by decide⟩)
        refine ⟨_, _, _, _, rfl, rfl, sqL (d3.app nq gq), hx, ?_⟩
        exact hN _ _ ⟨kd1, rfl, (dHe.same sq).trans d3, fun _ => hk1⟩
    rintro σ H3 ⟨kd, rfl, d3, hkd⟩
    tm_at "rzs"
    intro p4 H4 f4 s4 g4
    have n4 : p4 ≠ s := d3.s.ne f4
    have hs4 := d3.s.same s4
    tm_at "rzs"
    intro z5 H5 d5 l5 u5
    obtain ⟨ov, hx, ow, rfl, how⟩ := pickL (P := fun v => ∃ ow : String, v = sX ow ∧ ow ∈ ["start", "end", "middle", "stretch", "base"]) l5 u5 (xs := [sX "stretch", sX "stretch", sX "start", sX "middle", sX "base"]) (fun y m => by
      simp only [List.mem_cons, List.not_mem_nil, or_false] at m
      rcases m with rfl | rfl | rfl | rfl | rfl <;> exact ⟨_, rfl, by simp⟩)
    refine ⟨_, _, _, _, rfl, rfl, sqL (d5.app n4 g4), hx, ?_⟩
    have d05 : Dr s H H5 := (d3.same s4).trans d5
    dsimp only [gName]
    tm_at "rzs"
    intro z6 H6 d6 l6 u6
    have d06 := d05.trans d6
    tm_at "rzs"
    intro sp7 H7 d7 l7 u7
    have d07 := d06.trans d7
    tm_at "rzs"
    intro p8 H8 f8 s8 g8
    have n8 : p8 ≠ s := d07.s.ne f8
    have hs8 := d07.s.same s8
    tm_at "rzs"
    intro z9 H9 d9 l9 u9
    obtain ⟨wv, hx, wy, rfl, hwy⟩ := pickL (P := fun v => ∃ ow : String, v = sX ow ∧ ow ∈ ["start", "end", "middle", "between"]) l9 u9 (xs := [sX "start", sX "end", sX "middle", sX "between"]) (fun y m => by
      simp only [List.mem_cons, List.not_mem_nil, or_false] at m
      rcases m with rfl | rfl | rfl | rfl <;> exact ⟨_, rfl, by simp⟩)
    refine ⟨_, _, _, _, rfl, rfl, sqL (d9.app n8 g8), hx, ?_⟩
    have d09 := (d07.same s8).trans d9
    dsimp only [gName]
    tm_at "rzs"
    have kk9 : KeepS H H9 := d09.ks hs
    refine ⟨l, st, rfl, d09.app nl hl, kk9.okL ok, fun y dy H10 s10 fy g10 => ?_⟩
    have d010 := d09.same s10
    have kk10 : KeepS H H10 := d010.ks hs
    have ok10 : OkL K H10 st := kk10.okL ok
    have hks10 : ∀ k ∈ ks, BoxAt (bcT T) T.c_Style.C K H10 k := fun k m => (hks k m).ks kk10
    have ha10 : H10 a = some (.lst (refs ks)) := d010.app na ha
    dsimp only [gName]
    cases kd with
    | words =>
      have ek : ks = [] := Classical.byContradiction fun z => (hkd z).1 rfl
      subst ek
      tm_at "rzs"
      intro p11 H11 f11 s11 g11
      have n11 : p11 ≠ s := d010.s.ne f11
      have hs11 := d010.s.same s11
      tm_at "rzs"
      intro z12 H12 d12 l12 u12
      obtain ⟨tv, hx, tx, rfl, htx⟩ := pickL (P := fun v => ∃ t : List Nat, v = .str (sO t) ∧ t.length ≤ 10000) l12 u12 (xs := [sX "some words of it", sX "", sX "a\n bb  ccc", sX "longestword or not so"]) (fun y m => by
        simp only [List.mem_cons, List.not_mem_nil, or_false] at m
        rcases m with rfl | rfl | rfl | rfl <;> exact ⟨_, by rw [sO_tl], by decide +kernel⟩)
      refine ⟨_, _, _, _, rfl, rfl, sqL (d12.app n11 g11), hx, ?_⟩
      have d1012 : Dr s H10 H12 := (Dr.of d010.s s11).trans d12
      have kk12 : KeepS H10 H12 := d1012.ks d010.s
      have gy12 := kk12.sty st10 g10
      have ok12 := kk12.okL ok10
      dsimp only [gName]
      tm_at "rzs"
      intro bx dbx fbx fdbx nbx
      have smb := make_same (o := HO.own bx) (o' := HO.ins T.c_Words.C dbx []) fbx fdbx nbx
      refine ⟨bx, dbx, nm, tx, .ref y, rfl, upd_same, hn, htx, .inr ⟨y, dy, _, rfl, smb _ _ gy12, ok12.same smb⟩, fun H13 st' b13 si hb => ⟨rfl, ?_⟩⟩
      obtain rfl := styIs_eq (smb _ _ gy12) st10 (let ⟨_, _, _, _, _, _, _, _, _, _, o⟩ := hb.ob; o.1) si
      have s13 : Same H12 H13 := Same.mut' smb b13 fbx
      tm_at "rzs"
      intro r H14 f14 s14 g14
      have d012 := d010.trans d1012
      refine k r bx ow _ (.words tx) H14 ((d012.same s13).same s14) (d012.free fbx (d012.s.ne fbx)) g14 (hb.ks (Same.ks s14)) True.intro
    | picture =>
      have ek : ks = [] := Classical.byContradiction fun z => (hkd z).2 rfl
      subst ek
      tm_at "rzs"
      intro z11 H11 d11 l11 u11
      tm_at "rzs"
      intro z12 H12 d12 l12 u12
      have d1012 : Dr s H10 H12 := d11.trans d12
      have kk12 : KeepS H10 H12 := d1012.ks d010.s
      have gy12 := kk12.sty st10 g10
      have ok12 := kk12.okL ok10
      tm_at "rzs"
      intro bx dbx fbx fdbx nbx
      have smb := make_same (o := HO.own bx) (o' := HO.ins T.c_Picture.C dbx []) fbx fdbx nbx
      refine ⟨bx, dbx, nm, 1 + z11, 1 + z12, .ref y, rfl, upd_same, hn, by omega, by omega, .inr ⟨y, dy, _, rfl, smb _ _ gy12, ok12.same smb⟩, fun H13 st' b13 si hb => ⟨rfl, ?_⟩⟩
      obtain rfl := styIs_eq (smb _ _ gy12) st10 (let ⟨_, _, _, _, _, _, _, _, _, _, o⟩ := hb.ob; o.1) si
      have s13 : Same H12 H13 := Same.mut' smb b13 fbx
      tm_at "rzs"
      intro r H14 f14 s14 g14
      have d012 := d010.trans d1012
      refine k r bx ow _ (.picture (1 + z11) (1 + z12)) H14 ((d012.same s13).same s14) (d012.free fbx (d012.s.ne fbx)) g14 (hb.ks (Same.ks s14)) True.intro
    | row =>
      tm_at "rzs"
      intro bx dbx fbx fdbx nbx
      have smb := make_same (o := HO.own bx) (o' := HO.ins T.c_Row.C dbx []) fbx fdbx nbx
      refine ⟨bx, dbx, a, nm, ks, _, sp7, 1, wy, ow, .ref y, rfl, upd_same, hn, smb _ _ ha10, by omega, fun k m => (hks10 k m).ks (Same.ks smb), l7, by decide, hwy, how, .inr ⟨y, dy, _, rfl, smb _ _ g10, ok10.same smb⟩, fun H13 st' b13 si hb => ⟨rfl, ?_⟩⟩
      obtain rfl := styIs_eq (smb _ _ g10) st10 (let ⟨_, _, _, _, _, _, _, _, _, _, o⟩ := hb.ob; o.1) si
      have s13 : Same H10 H13 := Same.mut' smb b13 fbx
      tm_at "rzs"
      intro r H14 f14 s14 g14
      refine k r bx ow (decide (V.int z6 = V.int 1)) (.row (decide (V.int z6 = V.int 1)) sp7 1 wy ow) H14 ((d010.same s13).same s14) (d010.free fbx (d010.s.ne fbx)) g14 (hb.ks (Same.ks s14)) ⟨rfl, rfl⟩
    | pile =>
      tm_at "rzs"
      intro bx dbx fbx fdbx nbx
      have smb := make_same (o := HO.own bx) (o' := HO.ins T.c_Pile.C dbx []) fbx fdbx nbx
      refine ⟨bx, dbx, a, nm, ks, sp7, wy, ow, .ref y, rfl, upd_same, hn, smb _ _ ha10, by omega, fun k m => (hks10 k m).ks (Same.ks smb), l7, hwy, how, .inr ⟨y, dy, _, rfl, smb _ _ g10, ok10.same smb⟩, fun H13 st' b13 si hb => ⟨rfl, ?_⟩⟩
      obtain rfl := styIs_eq (smb _ _ g10) st10 (let ⟨_, _, _, _, _, _, _, _, _, _, o⟩ := hb.ob; o.1) si
      have s13 : Same H10 H13 := Same.mut' smb b13 fbx
      tm_at "rzs"
      intro r H14 f14 s14 g14
      refine k r bx ow _ (.pile sp7 wy ow) H14 ((d010.same s13).same s14) (d010.free fbx (d010.s.ne fbx)) g14 (hb.ks (Same.ks s14)) rfl
    | grid =>
      have lr : (refs ks).length = ks.length := by unfold refs; rw [List.length_map]
      tm_at "rzs"
      intro z11 H11 d11 l11 u11
      refine ⟨_, _, rfl, rfl, ?_⟩
      dsimp only [gName]
      tm_at "rd"
      tm_at "rd"
      rw [lr]
      obtain ⟨M, hM, M1, M3⟩ : ∃ M : Int, 1 + z11 = M ∧ 1 ≤ M ∧ M ≤ 3 := ⟨_, rfl, by omega, by omega⟩
      rw [hM]
      have kk11 : KeepS H10 H11 := d11.ks d010.s
      refine ⟨_, rfl, by omega, by omega, fun D hD => lcRo (n := ((ks.length : Nat) : Int).toNat) (s := s) (fun i v H => SpAt H v (sqO M i)) (fun i v Ha Hb acc h g b => ?_) (fun i v Ha Hb h hsa d => ?_) d11.s hD (by omega) (fun i H' Kt Kf acc hi dp hacc kk => ?_) (fun us H12 d12 hul hub nD gD => ?_)⟩
      · obtain ⟨q, e, gq⟩ := h
        exact ⟨q, e, tup_but b g gq⟩
      · obtain ⟨q, e, gq⟩ := h
        exact ⟨q, e, (d.ks hsa).tup gq⟩
      · tm_at "rds"
        intro q Hq fq sq gq
        rw [Int.zero_add] at gq
        exact kk _ _ (Dr.of dp.s sq) ⟨q, rfl, gq⟩
      have d012 : Dr s H H12 := (d010.trans d11).trans d12
      have hs12 := d012.s
      have sps : SpsAt H12 us ((List.range ks.length).map (sqO M)) := ⟨by rw [hul, List.length_map, List.length_range, Int.toNat_natCast], fun i v q e1 e2 => by
        rw [List.getElem?_map] at e2
        cases e : (List.range ks.length)[i]? with
        | none => rw [e] at e2; cases e2
        | some j =>
          rw [e] at e2
          cases e2
          have := hub i v e1
          have ej := List.getElem?_eq_some_iff.mp e
          obtain ⟨_, ej⟩ := ej
          rw [List.getElem_range] at ej
          rwa [ej] at this⟩
      have kk12 : KeepS H10 H12 := kk11.trans (d12.ks d11.s)
      dsimp only [gName]
      tm_at "rds"
      intro q13 H13 f13 s13 g13
      tm_at "rds"
      intro q14 H14 f14 s14 g14
      tm_at "rd"
      tm_at "rd"
      obtain ⟨m, rfl⟩ := Int.eq_ofNat_of_zero_le (show 0 ≤ M by omega)
      refine ⟨q14, _, rfl, sqL g14, ?_⟩
      rw [cutV_take]
      intro q15 H15 f15 s15 g15
      have s1215 := (s13.trans s14).trans s15
      have d015 := d012.same s1215
      have g13' := s14 _ _ g13
      obtain ⟨ts, hts, ots, lts⟩ := take_tks (H := H15) (a := sX "fit") (b := .ref q13) (c := .int 4) (ta := .fit) (tb := .share 2) (tc := .cells 4) (m := m) rfl ⟨q13, rfl, s15 _ _ g13'⟩ rfl True.intro (by show (1 : Int) ≤ 2; decide) (by show (0 : Int) ≤ 4; decide) (by omega) (by omega)
      dsimp only [gName]
      tm_at "rd"
      tm_at "rd"
      tm_at "rd"
      rw [lr]
      refine ⟨_, _, rfl, rfl, wide_div (b := 64) (by omega) (by omega) (by decide) (by decide), ?_⟩
      refine ⟨_, _, rfl, rfl, ?_⟩
      obtain ⟨R, dv, dle⟩ : ∃ R : Nat, (ks.length : Int) / (m : Int) = (R : Int) ∧ R ≤ ks.length := ⟨ks.length / m, by rw [Int.natCast_ediv], Nat.div_le_self _ _⟩
      rw [dv]
      refine ⟨_, rfl, by omega, by omega, fun D2 hD2 => lcRo (n := (1 + (R : Int)).toNat) (s := s) (fun i v H => ∃ t, TkAt H v t ∧ t.ok) (fun i v Ha Hb acc h g b => ?_) (fun i v Ha Hb h hsa d => ?_) d015.s hD2 (by omega) (fun i H' Kt Kf acc hi dp hacc kk => ?_) (fun us2 H16 d16 hul2 hub2 nD2 gD2 => ?_)⟩
      · obtain ⟨t, e, o⟩ := h
        exact ⟨t, e.but g b, o⟩
      · obtain ⟨t, e, o⟩ := h
        obtain ⟨_, es⟩ := hsa
        exact ⟨t, e.but es d.b, o⟩
      · tm_at "rds"
        intro q17 H17 f17 s17 g17
        tm_at "rds"
        intro q18 H18 f18 s18 g18
        have n18 : q18 ≠ s := (dp.s.same s17).ne f18
        have n17 : q17 ≠ s := dp.s.ne f17
        have hs18 := (dp.s.same s17).same s18
        tm_at "rds"
        intro z19 H19 d19 l19 u19
        have g17' := d19.app n17 (s18 _ _ g17)
        obtain ⟨x, hx, t, ht, ot⟩ := pick3 (P := fun v => ∃ t, TkAt H19 v t ∧ t.ok) l19 u19 ⟨.fit, rfl, True.intro⟩ ⟨.share 1, ⟨q17, rfl, g17'⟩, by show (1 : Int) ≤ 1; decide⟩ ⟨.cells 2, rfl, by show (0 : Int) ≤ 2; decide⟩
        refine ⟨_, _, _, _, rfl, rfl, sqL (d19.app n18 g18), hx, ?_⟩
        exact kk x H19 ((Dr.of dp.s (s17.trans s18)).trans d19) ⟨t, ht, ot⟩
      obtain ⟨rs, lrs, hrs⟩ := pick_list (P := fun v t => TkAt H16 v t ∧ t.ok) us2 (fun i v e => hub2 i v e)
      have trs : TksAt H16 us2 rs := ⟨lrs, fun i v t e1 e2 => (hrs i v t e1 e2).1⟩
      have ors : ∀ t ∈ rs, t.ok := fun t mt => by
        obtain ⟨i, hi, e⟩ := List.getElem_of_mem mt
        have hi2 : i < us2.length := by omega
        exact (hrs i us2[i] t (List.getElem?_eq_getElem hi2) (by rw [List.getElem?_eq_getElem hi, e])).2
      have lrs' : rs.length = 1 + R := by rw [← lrs, hul2]; omega
      have d016 := d015.trans d16
      have d1016 : Dr s H10 H16 := (((d11.trans d12).same s1215).trans d16)
      have kk16 : KeepS H10 H16 := d1016.ks d010.s
      have kkb : KeepS H15 H16 := d16.ks d015.s
      have gy16 := kk16.sty st10 g10
      have ok16 := kk16.okL ok10
      have ha16 : H16 a = some (.lst (refs ks)) := d016.app na ha
      have gD16 := d16.app nD (s1215 _ _ gD)
      have g1516 := d16.app ((d012.same (s13.trans s14)).s.ne f15) g15
      have sps16 : SpsAt H16 us ((List.range ks.length).map (sqO (m : Int))) := (Same.ks s1215).trans kkb |>.sps sps
      have hts16 : TksAt H16 ([sX "fit", .ref q13, .int 4].take m) ts := hts.dr d015.s d16
      dsimp only [gName]
      tm_at "rds"
      intro bx dbx fbx fdbx nbx
      have smb := make_same (o := HO.own bx) (o' := HO.ins T.c_Grid.C dbx []) fbx fdbx nbx
      have stb : stB ts.length rs.length [] (((List.range ks.length).map (sqO (m : Int))).map spO) = true := by
        have := sq_ok (M := (m : Int)) (n := ks.length) (by omega) (by omega)
        rw [dv] at this
        rwa [show (ts.length : Int) = (m : Int) from by rw [lts], show (rs.length : Int) = 1 + (R : Int) from by rw [lrs']; omega]
      refine ⟨bx, dbx, a, D, q15, D2, nm, ks, us, _, us2, (List.range ks.length).map (sqO (m : Int)), ts, rs, sp7, 1, ow, .ref y, rfl, upd_same, hn, smb _ _ ha16, by omega, fun k m => (hks k m).ks ((d016.ks hs).same smb), smb _ _ gD16, (Same.ks smb).sps sps16, by rw [List.length_map, List.length_range], stb,
        smb _ _ g1516, hts16.mono smb, ots, (fun z => by rw [z] at lts; change 0 = m at lts; omega), by omega, smb _ _ gD2, trs.mono smb, ors, (fun z => by rw [z] at lrs'; change 0 = 1 + R at lrs'; omega), by omega, l7, by decide, how, .inr ⟨y, dy, _, rfl, smb _ _ gy16, ok16.same smb⟩, fun H20 st' b20 si hb => ⟨rfl, ?_⟩⟩
      obtain rfl := styIs_eq (smb _ _ gy16) st10 (let ⟨_, _, _, _, _, _, _, _, _, _, o⟩ := hb.ob; o.1) si
      have s20 : Same H16 H20 := Same.mut' smb b20 fbx
      dsimp only [gName]
      tm_at "rds"
      intro r H21 f21 s21 g21
      exact k r bx ow _ (.grid ((List.range ks.length).map (sqO (m : Int))) ts rs sp7 1 ow) H21 ((d016.same s20).same s21) (d016.free fbx (d016.s.ne fbx)) g21 (hb.ks (Same.ks s21)) rfl
end
end My
namespace My
open PySem PySem.Spec PyProof.Rows L2
section
variable {P : Program} {w : World} {K : PySem.W.Frag} {mg : Str → Option Value} {base : Heap}
/-- a tree with what is told of it -/
structure ToldT (bc : Kd → Addr) (S : Addr) (K : PySem.W.Frag) (H0 H : Hp) (ns : List (List Nat)) (d : Addr) (t : At) : Prop where
  box : BoxAt bc S K H t
  tin : TreeIn H t
  perm : (t.all.map At.nm).Perm ns
  last : ns.getLast? = some t.nm
  facts : ∃ kvs, H d = some (.dK kvs) ∧ ∀ p ∈ t.subs .non, Fact H0 H kvs p.1 p.2
/-- what stands ahead of the i-th box -/
structure StepT (bc : Kd → Addr) (S : Addr) (K : PySem.W.Frag) (H0 H : Hp) (ns : List (List Nat)) (pn d p : Addr) (i : Nat) (ts : List At) (kvs : List (Key × V)) : Prop where
  same : Same H0 H
  fd : H0 d = none
  pn : H pn = some (.lst (ns.map fun l => V.str (sO l)))
  d : H d = some (.dK kvs)
  len : kvs.length ≤ i
  inj : InjK kvs
  dom : ∀ n v, valV kvs (keyS n) = some v → n ∈ ns.take i
  facts : ∀ q ∈ subsL ts .non, Fact H0 H kvs q.1 q.2
  p : H p = some (.lst (refs ts))
  box : ∀ t ∈ ts, BoxAt bc S K H t
  perm : ((allL ts).map At.nm).Perm (ns.take i)
  sz : ∀ b ∈ allL ts, SzIn ns H true (b.st.getD 0 .non) ∧ SzIn ns H true (b.st.getD 1 .non)
  root : i = ns.length → ∃ t, ts = [t] ∧ SzIn ns H false (t.st.getD 0 .non) ∧ SzIn ns H false (t.st.getD 1 .non) ∧ ns.getLast? = some t.nm
def sp_w_tree (bc : Kd → Addr) (S : Addr) (K : PySem.W.Frag) : Sp := fun vs H Q _ => ∃ (a : Addr) (is : List Int) (most loose : Int), vs = [.ref a, .int most, .int loose] ∧ SqL K H a (is.map V.int) ∧ is.length ≤ 63 ∧ 1 ≤ most ∧ most ≤ 20 ∧
  ∀ (r pn d : Addr) (t : At) (ns : List (List Nat)) H', Same H H' → H' r = some (.tup [.ref t.x, .ref pn, .ref d]) → H' pn = some (.lst (ns.map fun l => V.str (sO l))) → ns.Nodup → (∀ l ∈ ns, NameOk l) → 1 ≤ ns.length → (ns.length : Int) ≤ most → ToldT bc S K H H' ns d t → Q (.ref r) H'
theorem ok_w_tree (T : Tx w K mg) : FnOk P w K mg base CX0 10 T.d_w_tree.f T.d_w_tree.fd ["_law_script", "_law_most", "_law_loose"] (sp_w_tree (bcT T) T.c_Style.C K) := by
  refine T.d_w_tree.F.ok sc_w_tree (fun vs H Q E h => ?_) (fun cdv A outer s H vs Q E hr h => ?_)
  · obtain ⟨a, is, most, loose, rfl, _⟩ := h
    rfl
  · obtain ⟨a, is, most, loose, rfl, hS, hl, m1, m20, k⟩ := h
    refine ⟨_, (pss_cons (ps_set (i := 3) sc_w_tree.nd rfl (Or.inl rfl) (pe_call (ok_w_source T) (hr.mono (by decide)) (by rfl) T.d_w_source.g T.d_w_source.F.kp T.d_w_source.b .nil pass0 (pa_cons (pv 0) (pa_cons pe_int pa_nil))))
      (pss_cons (ps_set (i := 4) sc_w_tree.nd rfl (Or.inl rfl) (pe_call (ok_w_names T) (hr.mono (by decide)) (by rfl) T.d_w_names.g T.d_w_names.F.kp T.d_w_names.b .nil pass0 (pa_cons (pv 3) (pa_cons (pe_op op_add pe_int (pe_call (ok_w_next T) (hr.mono (by decide)) (by rfl) T.d_w_next.g T.d_w_next.F.kp T.d_w_next.b .nil pass0 (pa_cons (pv 3) (pa_cons (pv 1) pa_nil)))) pa_nil))))
      (pss_cons (ps_set (i := 5) sc_w_tree.nd rfl (Or.inl rfl) pe_dnewA)
      (pss_cons (ps_set (i := 6) sc_w_tree.nd rfl (Or.inl rfl) (pe_lstA pa_nil))
      (pss_cons (ps_for PassesOwn.never (by rfl) (pi_enumK (K := K) rfl (by rfl) T.b_enumerate (pa_cons (pv 4) pa_nil)) (pg_tup (by rfl) (pgs_cons (pg_name (i := 7) sc_w_tree.nd rfl (Or.inl rfl)) (pgs_cons (pg_name (i := 8) sc_w_tree.nd rfl (Or.inl rfl)) pgs_nil)))
      (pss_cons (ps_set (i := 3) sc_w_tree.nd rfl (Or.inl rfl) (pe_call (ok_w_source T) (hr.mono (by decide)) (by rfl) T.d_w_source.g T.d_w_source.F.kp T.d_w_source.b .nil pass0 (pa_cons (pv 0) (pa_cons (pe_op op_add (pv 7) pe_int) pa_nil))))
      (pss_cons (ps_set (i := 9) sc_w_tree.nd rfl (Or.inl rfl) (pe_cmpR op_eq (pv 7) (pe_op op_sub (pe_callB (call_lenK (K := K) rfl) (by rfl) T.b_len (by decide +kernel) (pa_cons (pv 4) pa_nil)) pe_int) (nomark _)))
      (pss_cons (ps_set (i := 10) sc_w_tree.nd rfl (Or.inl rfl) (pe_ix (ix_listK (K := K) rfl) (pe_lstA (pa_cons (pe_call (ok_w_next T) (hr.mono (by decide)) (by rfl) T.d_w_next.g T.d_w_next.F.kp T.d_w_next.b .nil pass0 (pa_cons (pv 3) (pa_cons pe_int pa_nil))) (pa_cons (pe_callB (call_lenK (K := K) rfl) (by rfl) T.b_len (by decide +kernel) (pa_cons (pv 6) pa_nil)) pa_nil))) (pe_callTy call_int1 (by rfl) T.b_int (by decide +kernel) (pa_cons (pv 9) pa_nil)) (fun _ _ => rfl)))
      (pss_cons (ps_set (i := 11) sc_w_tree.nd rfl (Or.inl rfl) (pe_slice (sl_listK (K := K) rfl) (pv 6) (po_some (pe_callB (call_max2 rfl) (by rfl) T.b_max (by decide +kernel) (pa_cons pe_int (pa_cons (pe_op op_sub (pe_callB (call_lenK (K := K) rfl) (by rfl) T.b_len (by decide +kernel) (pa_cons (pv 6) pa_nil)) (pv 10)) pa_nil)))) po_none))
      (pss_cons (ps_set (i := 12) sc_w_tree.nd rfl (Or.inl rfl) (pe_call (ok_w_looks T) (hr.mono (by decide)) (by rfl) T.d_w_looks.g T.d_w_looks.F.kp T.d_w_looks.b .nil pass0 (pa_cons (pv 3) (pa_cons (pv 4) (pa_cons (pv 9) (pa_cons (pv 2) pa_nil))))))
      (pss_cons (ps_asg (pe_call (ok_w_box T) (hr.mono (by decide)) (by rfl) T.d_w_box.g T.d_w_box.F.kp T.d_w_box.b .nil pass0 (pa_cons (pv 3) (pa_cons (pv 8) (pa_cons (pv 11) (pa_cons (pv 12) pa_nil))))) (pg_tup (by rfl) (pgs_cons (pg_name (i := 13) sc_w_tree.nd rfl (Or.inl rfl)) (pgs_cons (pg_name (i := 14) sc_w_tree.nd rfl (Or.inl rfl)) (pgs_cons (pg_name (i := 15) sc_w_tree.nd rfl (Or.inl rfl)) (pgs_cons (pg_name (i := 16) sc_w_tree.nd rfl (Or.inl rfl)) pgs_nil))))))
      (pss_cons (ps_dput (hu_of hr) (pv 5) (pv 8) (pe_lstA (pa_cons (pv 13) (pa_cons (pv 14) (pa_cons (pv 15) (pa_cons (pv 12) (pa_cons (pe_lc (own := [("_law_one", 17)]) (g := gName 17) (by rfl) sc_w_tree.nd (pi_listK (K := K) rfl (pv 11)) (blkOk_by (own := [("_law_one", 17)]) (N := N_w_tree) (sc := defScope s_w_tree) (by decide +kernel)) (fun _ _ _ _ _ => (pg_name (i := 17) sc_w_tree.nd rfl (Or.inl rfl))) (fun _ _ _ _ _ => pts_nil) (fun _ _ _ _ _ => (pe_fldK (K := K) rfl (pv 17) rfl))) (pa_cons pe_non pa_nil))))))) rfl)
      (pss_cons (ps_for PassesOwn.never (by rfl) (pi_listK (K := K) rfl (pv 11)) (pg_name (i := 17) sc_w_tree.nd rfl (Or.inl rfl))
      (pss_one (ps_asg (pv 8) (pg_sub (pe_dget (hu_of hr) (pv 5) (pe_fldK (K := K) rfl (pv 17) rfl) (fun _ _ => rfl)) pe_int set_listA))))
      (pss_one (ps_set (i := 6) sc_w_tree.nd rfl (Or.inl rfl) (pe_op (op_catK (K := K) rfl) (pe_slice (sl_listK (K := K) rfl) (pv 6) po_none (po_some (pe_op op_sub (pe_callB (call_lenK (K := K) rfl) (by rfl) T.b_len (by decide +kernel) (pa_cons (pv 6) pa_nil)) (pe_callB (call_lenK (K := K) rfl) (by rfl) T.b_len (by decide +kernel) (pa_cons (pv 11) pa_nil))))) (pe_lstA (pa_cons (pv 16) pa_nil))))))))))))))
      (pss_one (ps_ret (pe_tupA (pa_cons (pe_ix (ix_listK (K := K) rfl) (pv 6) pe_int (fun _ _ => rfl)) (pa_cons (pv 4) (pa_cons (pv 5) pa_nil))))))))))), ?_⟩
    tm_at "rzs"
    refine ⟨a, is, 0, rfl, hS, hl, fun s0 c0 H1 s1 f0 g0 => ?_⟩
    have hs0 : Src H1 s0 := ⟨_, g0⟩
    dsimp only [gName]
    tm_at "rzs"
    intro n2 H2 d2 l2 u2
    obtain ⟨m2, rfl⟩ := Int.eq_ofNat_of_zero_le l2
    refine ⟨_, _, rfl, rfl, ?_⟩
    refine ⟨s0, 1 + m2, by rw [Int.natCast_add]; rfl, d2.s, by omega, fun pn ns H3 d3 npn fpn gpn lns nok nd => ?_⟩
    have s03 : Same H H3 := Same.mut' s1 (d2.trans d3).b f0
    dsimp only [gName]
    tm_at "rzs"
    intro d H4 f4 s4 g4
    dsimp only [gName]
    tm_at "rzs"
    intro p5 H5 f5 s5 g5
    dsimp only [gName]
    tm_at "rds"
    have s05 : Same H H5 := (s03.trans s4).trans s5
    have fd0 : H d = none := s03.free f4
    have gpn5 := s5 _ _ (s4 _ _ gpn)
    refine ⟨pn, _, rfl, sqL gpn5, for_enum (K := K) (xs := ns.map fun l => V.str (sO l)) (fun i σ H' => ∃ (v3 v7 v8 v9 v10 v11 v12 v13 v14 v15 v16 v17 : Option V) (p : Addr) (ts : List At) (kvs : List (Key × V)), σ = [some (.ref a), some (.int most), some (.int loose), v3, some (.ref pn), some (.ref d), some (.ref p), v7, v8, v9, v10, v11, v12, v13, v14, v15, v16, v17] ∧ StepT (bcT T) T.c_Style.C K H H' ns pn d p i ts kvs)
      ⟨_, _, _, _, _, _, _, _, _, _, _, _, p5, [], [], rfl, ?_⟩ (fun i σ H' ⟨_, _, _, _, _, _, _, _, _, _, _, _, _, _, _, _, st⟩ => sqL st.pn) ?_ ?_⟩
    · refine ⟨s05, fd0, gpn5, s5 _ _ g4, Nat.le_refl _, (fun n m x e => by cases e), (fun n v e => by cases e), (fun q m => by rw [subsL] at m; cases m), g5, (fun t m => by cases m), (by rw [allL, List.take_zero]; exact .nil), (fun b m => by rw [allL] at m; cases m), (fun e => by omega)⟩
    · rintro i x T1 σ H6 H7 hx ⟨v3, v7, v8, v9, v10, v11, v12, v13, v14, v15, v16, v17, p, ts, kvs, rfl, st⟩ nT sT gT
      obtain ⟨nm, hnm, rfl⟩ := of_map hx
      have hi := (List.getElem?_eq_some_iff.mp hnm).1
      have hnok : NameOk nm := nok nm (List.mem_of_getElem? hnm)
      dsimp only [gName]
      tm_at "rds"
      refine ⟨T1, _, rfl, sqT gT, rfl, ?_⟩
      tm_at "rds"
      refine ⟨a, is, i + 1, by rw [Int.natCast_add]; rfl, (st.same.trans sT).seq hS, hl, fun s c8 H8 s8 f8 g8 => ?_⟩
      have s78 := s8
      have hs8 : Src H8 s := ⟨_, g8⟩
      have fs6 : H6 s = none := sT.free f8
      have s68 : Same H6 H8 := sT.trans s8
      dsimp only [gName]
      tm_at "rds"
      have gpn8 := s68 _ _ st.pn
      refine ⟨_, _, rfl, .inl ⟨_, sqL gpn8, rfl⟩, ?_⟩
      tm_at "rds"
      rw [int_inj_dec, show decide ((i : Int) = (((ns.map fun l => V.str (sO l)).length : Nat) : Int) - 1) = decide (i + 1 = ns.length) from by rw [List.length_map]; exact decide_eq_decide.mpr (by omega)]
      generalize hfi : decide (i + 1 = ns.length) = fi
      have old : ∀ {x : Addr} {o : HO}, H6 x = some o → x ≠ s := fun h => ne_of_none h fs6
      intro n9 H9 d9 l9 u9
      have s69 : Same H6 H9 := Same.mut' s68 d9.b fs6
      have lrt : (refs ts).length = ts.length := by unfold refs; rw [List.length_map]
      tm_at "rd"
      refine ⟨_, _, rfl, .inl ⟨_, sqL (s69 _ _ st.p), rfl⟩, ?_⟩
      rw [lrt]
      tm_at "rds"
      intro q10 H10 f10 s10 g10
      have s610 := s69.trans s10
      tm_at "rds"
      obtain ⟨j, hj, hj2, hat⟩ : ∃ j : Nat, j ≤ ts.length ∧ (fi = true → j = 0) ∧ ∃ z : Int, atI [V.int n9, .int (ts.length : Int)] (if fi = true then 1 else 0) = some (.int z) ∧ (if (ts.length : Int) - z > 0 then (ts.length : Int) - z else 0) = (j : Int) := by
        cases fi with
        | true => exact ⟨0, Nat.zero_le _, (fun _ => rfl), _, rfl, by split <;> omega⟩
        | false => exact ⟨ts.length - n9.toNat, by omega, (fun z => by cases z), _, rfl, by split <;> omega⟩
      obtain ⟨z11, hat, hz⟩ := hat
      refine ⟨_, _, _, _, rfl, rfl, sqL g10, hat, ?_⟩
      dsimp only [gName]
      tm_at "rds"
      refine ⟨_, _, rfl, .inl ⟨_, sqL (s610 _ _ st.p), rfl⟩, ?_⟩
      rw [lrt]
      tm_at "rds"
      refine ⟨p, _, rfl, sqL (s610 _ _ st.p), ?_⟩
      rw [hz, cutV_drop, show (refs ts).drop j = refs (ts.drop j) from by unfold refs; rw [List.map_drop]]
      intro q11 H11 f11 s11 g11
      have d811 : Dr s H8 H11 := (d9.same s10).same s11
      have n11 : q11 ≠ s := (d9.same s10).s.ne f11
      have s611 := s610.trans s11
      have hlt : ts.length ≤ 20 := by
        have h1 := len_allL ts
        have h2 := st.perm.length_eq
        rw [List.length_map, List.length_take] at h2
        omega
      dsimp only [gName]
      tm_at "rds"
      refine ⟨s, pn, ns, fi, loose, rfl, d811.s, old st.pn, s611 _ _ st.pn, (fun z => by rw [z] at hi; cases hi), by omega, nok, fun l12 st12 H12 d12 f12 nl12 gl12 ok12 sz0 sz1 => ?_⟩
      have d812 := d811.trans d12
      have s612 : Same H6 H12 := Same.mut' s68 d812.b fs6
      dsimp only [gName]
      tm_at "rds"
      refine ⟨s, q11, l12, nm, ts.drop j, st12, rfl, d12.s, hnok, n11, nl12, d12.app n11 g11, by rw [List.length_drop]; omega, fun k m => (st.box k (List.mem_of_mem_drop m)).ks (Same.ks s612), gl12, ok12, fun r13 x13 ow tn o H13 d13 fx13 gr13 hb13 ho => ?_⟩
      have d813 := d812.trans d13
      have s613 : Same H6 H13 := Same.mut' s68 d813.b fs6
      have kk13 : KeepS H12 H13 := d13.ks d12.s
      have gl13 := d13.app nl12 gl12
      have g11' := d13.app n11 (d12.app n11 g11)
      dsimp only [gName]
      tm_at "rds"
      refine ⟨r13, _, rfl, sqT gr13, rfl, ?_⟩
      tm_at "rds"
      refine ⟨⟨_, sqL g11'⟩, fun D hD => lcLm (K := K) (fun k : At => V.ref k.x) (fun k : At => V.str (sO k.nm)) hD (sqL g11') (by rw [List.length_drop]; omega) (fun i2 y H14 Kt Kf hy s14 kt => ?_) (fun H14 s14 g14 => ?_)⟩
      · have my : y ∈ ts := List.mem_of_mem_drop (List.mem_of_getElem? hy)
        have hby := (st.box y my).ks (Same.ks (s613.trans s14))
        obtain ⟨bd, yy, dy, fs, hbx, ln, ls, hys, lh, hnn, okk⟩ := hby.ob
        tm_at "rds"
        refine ⟨_, _, _, _, _, rfl, hbx, (kdT T).cl _, (kdT T).nm _, ln, ?_⟩
        exact kt _ (Same.refl _)
      tm_at "rds"
      intro f15 H15 f15n s15 g15
      have s615 : Same H6 H15 := (s613.trans s14).trans s15
      have hd15 := s615 _ _ st.d
      have nni : nm ∉ ns.take i := fun m => by
        obtain ⟨i3, h3⟩ := List.getElem?_of_mem m
        rw [List.getElem?_take] at h3
        split at h3
        · have := (List.getElem?_inj hi nd).mp (hnm.trans h3.symm); omega
        · cases h3
      have vno : valV kvs (keyS nm) = none := by
        cases e : valV kvs (keyS nm) with
        | none => rfl
        | some v => exact absurd (st.dom nm v e) nni
      tm_at "rds"
      refine ⟨d, _, rfl, DPut.k (k := keyS nm) hd15 (Nat.lt_of_le_of_lt st.len (by rw [sizeLine_eq]; omega)), ?_⟩
      have nsub : ∀ b ∈ allL ts, b.nm ≠ nm := fun b mb z => nni (st.perm.mem_iff.mp (z ▸ List.mem_map_of_mem mb))
      have hkv : ∀ n, valV (putK kvs (keyS nm) (.ref f15)) (keyS n) = if n = nm then some (.ref f15) else valV kvs (keyS n) := fun n => by
        rw [valV_put]
        by_cases e : n = nm
        · rw [if_pos e, if_pos (by rw [e])]
        · rw [if_neg e, if_neg (fun z => e (keyS_inj z))]
      have old15 : ∀ n x, valV kvs (keyS n) = some (.ref x) → x ≠ f15 := fun n x e => by
        have m := st.perm.mem_iff.mpr (st.dom n _ e)
        obtain ⟨b, mb, rfl⟩ := List.mem_map.mp m
        rw [← subsL_all ts .non] at mb
        obtain ⟨q, mq, rfl⟩ := List.mem_map.mp mb
        obtain ⟨f, l, z, ow, tn, fa⟩ := st.facts q mq
        rw [fa.v] at e
        cases e
        exact ne_of_none (s14 _ _ (s613 _ _ fa.f)) f15n
      generalize hkvs : putK kvs (keyS nm) (.ref f15) = kvs' at hkv
      have klen : kvs'.length ≤ i + 1 := by
        rw [← hkvs, putK_new _ vno, List.length_append]
        have := st.len
        show kvs.length + 1 ≤ i + 1; omega
      have inj' : InjK kvs' := fun n m x e1 e2 => by
        rw [hkv] at e1 e2
        by_cases h1 : n = nm
        · by_cases h2 : m = nm
          · rw [h1, h2]
          · rw [if_pos h1] at e1; rw [if_neg h2] at e2; cases e1; exact absurd rfl (old15 _ _ e2)
        · by_cases h2 : m = nm
          · rw [if_neg h1] at e1; rw [if_pos h2] at e2; cases e2; exact absurd rfl (old15 _ _ e1)
          · rw [if_neg h1] at e1; rw [if_neg h2] at e2; exact st.inj _ _ _ e1 e2
      have b16 : But d H15 (upd H15 d (.dK kvs')) := But.refl.upd
      have g16 : (upd H15 d (.dK kvs')) d = some (.dK kvs') := upd_same
      generalize upd H15 d (.dK kvs') = H16 at b16 g16
      have ets : ts.take j ++ ts.drop j = ts := List.take_append_drop j ts
      have ndt : ((allL (ts.take j ++ ts.drop j)).map At.nm).Nodup := by
        rw [ets]
        exact st.perm.nodup_iff.mpr (nd.sublist (List.take_sublist _ _))
      obtain ⟨hK, hA1, hA2⟩ := split_ok ndt
      have mfr : ∀ b ∈ allL (ts.take j), b ∈ allL ts := fun b m => by rw [← ets, allL_app]; exact List.mem_append_left _ m
      have mks : ∀ b ∈ allL (ts.drop j), b ∈ allL ts := fun b m => by rw [← ets, allL_app]; exact List.mem_append_right _ m
      have fac16 : ∀ q ∈ subsL ts .non, Fact H H16 kvs' q.1 q.2 := fun q m => ((st.facts q m).same s615).put hd15 b16 (by rw [hkv, if_neg (nsub _ (subs_in m))])
      have nb_f : ∃ f l z ow' tn', FactAt H H16 kvs' (.mk x13 nm st12 o (ts.drop j)) .non f l z ow' tn' := by
        have lne : ∀ {x : Addr} {xs : List V}, H15 x = some (.lst xs) → x ≠ d := fun hx z => by rw [z, hd15] at hx; cases hx
        have gD15 := s15 _ _ g14
        have gl15 := s15 _ _ (s14 _ _ gl13)
        exact ⟨f15, l12, D, ow, tn, by rw [hkv]; exact if_pos rfl, (st.same.trans (s613.trans s14)).free f15n, b16.app (lne g15) g15, b16.app (lne gl15) gl15, noB_st ok12, b16.app (lne gD15) gD15, ho⟩
      have s016 : Same H H16 := Same.mut' (st.same.trans s615) b16 st.fd
      have kk16 : KeepS H15 H16 := KeepS.refl.butK b16 hd15
      have low : ∀ {x : Addr} {xs : List V}, H15 x = some (.lst xs) → H16 x = some (.lst xs) := fun hx => b16.app (fun z => by rw [z, hd15] at hx; cases hx) hx
      have gpn16 := low (s615 _ _ st.pn)
      have gp16 := low (s615 _ _ st.p)
      have gq16 := low (s15 _ _ (s14 _ _ g11'))
      have kk616 : KeepS H6 H16 := (Same.ks s615).trans kk16
      dsimp only
      show tSeq (tFor _ _ _) _ _ [some (.ref a), some (.int most), some (.int loose), some (.ref s), some (.ref pn), some (.ref d), some (.ref p), some (.int (i : Int)), some (.str (sO nm)), some (.bl fi), some (.int z11), some (.ref q11), some (.ref l12), some (sX (kdW o.kd)), some (sX ow), some (.bl tn), some (.ref x13), v17] H16
      refine ⟨_, rfl, q11, rfl, ⟨_, sqL gq16⟩, for_list (K := K) (a := q11) (xs := refs (ts.drop j)) (fun i2 σ H' => ∃ v17 : Option V, σ = [some (.ref a), some (.int most), some (.int loose), some (.ref s), some (.ref pn), some (.ref d), some (.ref p), some (.int (i : Int)), some (.str (sO nm)), some (.bl fi), some (.int z11), some (.ref q11), some (.ref l12), some (sX (kdW o.kd)), some (sX ow), some (.bl tn), some (.ref x13), v17] ∧ KeepS H16 H' ∧ Same H H' ∧ H' pn = some (.lst (ns.map fun l => V.str (sO l))) ∧ H' p = some (.lst (refs ts)) ∧ H' q11 = some (.lst (refs (ts.drop j))) ∧ H' d = some (.dK kvs') ∧
          Fact H H' kvs' (.mk x13 nm st12 o (ts.drop j)) .non ∧ (∀ q ∈ subsL (ts.take j) .non, Fact H H' kvs' q.1 q.2) ∧ (∀ k' ∈ ts.drop j, ∀ q ∈ subsL k'.kids (.str (sO k'.nm)), Fact H H' kvs' q.1 q.2) ∧ ∀ (i3 : Nat) (k' : At), (ts.drop j)[i3]? = some k' → Fact H H' kvs' k' (if i3 < i2 then .str (sO nm) else .non))
        ⟨v17, rfl, KeepS.refl, s016, gpn16, gp16, gq16, g16, nb_f, (fun q m => fac16 q (by rw [← ets, subsL_app]; exact List.mem_append_left _ m)), (fun k' mk' q m => fac16 q (by rw [← ets, subsL_app]; exact List.mem_append_right _ (subs_mem (by rw [At.subs_eq]; exact List.mem_cons_of_mem _ m) mk'))), (fun i3 k' e3 => by
          rw [if_neg (Nat.not_lt_zero _)]
          exact fac16 (k', .non) (by rw [← ets, subsL_app]; exact List.mem_append_right _ (subs_mem (by rw [At.subs_eq]; exact List.mem_cons_self) (List.mem_of_getElem? e3))))⟩ (fun i2 σ H' _ ⟨_, _, _, _, _, _, g, _⟩ => sqL g) ?_ ?_⟩
      · rintro i2 x17 σ H17 hx17 ⟨w17, rfl, kk17, s17, gpn17, gp17, gq17, gd17, fnb, fA1, fA2, fK⟩
        obtain ⟨k', hk', rfl⟩ := of_map (ρ := fun k : At => V.ref k.x) hx17
        have mk' := List.mem_of_getElem? hk'
        have hbk := (st.box k' (List.mem_of_mem_drop mk')).ks (kk616.trans kk17)
        obtain ⟨bd, yy, dy, fs, hbx, ln, ls, hys, lh, hnn, okk⟩ := hbk.ob
        have fk0 := fK i2 k' hk'
        rw [if_neg (Nat.lt_irrefl _)] at fk0
        obtain ⟨f, l, z, ow', tn', fa⟩ := fk0
        dsimp only [gName]
        tm_at "rds"
        refine ⟨_, _, _, _, _, rfl, hbx, (kdT T).cl _, (kdT T).nm _, ln, ?_⟩
        refine ⟨d, _, rfl, .inl ⟨kvs', keyS k'.nm, .inl gd17, rfl, fa.v.symm⟩, ?_⟩
        refine ⟨f, _, 5, 5, rfl, rfl, fa.f, rfl, fun H18 b18 g18 => ?_⟩
        have nd18 : d ≠ f := fun z => by rw [z, fa.f] at gd17; cases gd17
        have nek : nm ≠ k'.nm := (nsub k' (mks _ (kid_in mk'))).symm
        refine ⟨_, rfl, kk17.butL b18 fa.f, Same.mut' s17 b18 fa.z, b18.app (noB_ne gpn17 (noB_strs (fun l => l) _) fa.f) gpn17, b18.app (noB_ne gp17 (noB_refs _) fa.f) gp17, b18.app (noB_ne gq17 (noB_refs _) fa.f) gq17, b18.app nd18 gd17, fnb.but inj' fa.v fa.f b18 nek, (fun q m => (fA1 q m).but inj' fa.v fa.f b18 (hA1 _ (subs_in m) _ mk')), (fun k2 m2 q m => (fA2 k2 m2 q m).but inj' fa.v fa.f b18 (hA2 _ m2 _ (subs_in m) _ mk')), fun i3 k2 h3 => ?_⟩
        by_cases e3 : i3 = i2
        · subst e3
          rw [hk'] at h3
          cases h3
          rw [if_pos (Nat.lt_succ_self _)]
          exact fa.set b18 g18
        · have n2 : k2.nm ≠ k'.nm := fun z => e3 (by
            have h4 : ((ts.drop j).map At.nm)[i3]? = ((ts.drop j).map At.nm)[i2]? := by rw [List.getElem?_map, List.getElem?_map, h3, hk']; show some k2.nm = some k'.nm; rw [z]
            exact (List.getElem?_inj (by rw [List.length_map]; exact (List.getElem?_eq_some_iff.mp h3).1) hK).mp h4)
          have := (fK i3 k2 h3).but inj' fa.v fa.f b18 n2
          rwa [← ite_step e3] at this
      · rintro σ H17 ⟨w17, rfl, kk17, s17, gpn17, gp17, gq17, gd17, fnb, fA1, fA2, fK⟩
        have lrk : (refs (ts.drop j)).length = ts.length - j := by unfold refs; rw [List.length_map, List.length_drop]
        tm_at "rds"
        rw [lrt, lrk]
        refine ⟨p, _, rfl, sqL gp17, ?_⟩
        rw [show (ts.length : Int) - ((ts.length - j : Nat) : Int) = (j : Int) from by omega, cutV_take, show (refs ts).take j = refs (ts.take j) from by unfold refs; rw [List.map_take]]
        intro q18 H18 f18 s18 g18
        tm_at "rds"
        intro q19 H19 f19 s19 g19
        have g18' := s19 _ _ g18
        refine ⟨q18, q19, _, _, rfl, rfl, g18', g19, by unfold refs; rw [List.length_map, List.length_take, sizeLine_eq]; show _ + 1 ≤ _; omega, fun p20 H20 f20 s20 g20 => ?_⟩
        have s1720 : Same H17 H20 := (s18.trans s19).trans s20
        have kk20 : KeepS H6 H20 := (kk616.trans kk17).same s1720
        have kk1320 : KeepS H13 H20 := ((Same.ks (s14.trans s15)).trans (kk16.trans kk17)).same s1720
        have eni : ns.take (i + 1) = ns.take i ++ [nm] := by rw [List.take_add_one, hnm]; rfl
        have hnb := hb13.ks kk1320
        refine ⟨_, _, _, _, _, _, _, _, _, _, _, _, p20, ts.take j ++ [.mk x13 nm st12 o (ts.drop j)], kvs', rfl, ?_⟩
        refine ⟨s17.trans s1720, st.fd, s1720 _ _ gpn17, s1720 _ _ gd17, klen, inj', (fun n v e => ?_), (fun q m => ?_), (by rw [g20]; unfold refs; rw [List.map_append]; rfl), (fun t m => ?_), ?_, (fun b m => ?_), (fun e => ?_)⟩
        · rw [hkv] at e
          rw [eni]
          by_cases e1 : n = nm
          · rw [e1]; exact List.mem_append_right _ List.mem_cons_self
          · rw [if_neg e1] at e
            exact List.mem_append_left _ (st.dom n v e)
        · rw [subsL_app] at m
          rcases List.mem_append.mp m with m | m
          · exact (fA1 q m).same s1720
          · rw [subsL, subsL, List.append_nil, At.subs_eq] at m
            rcases List.mem_cons.mp m with rfl | m
            · exact fnb.same s1720
            · obtain ⟨k', mk', m⟩ := mem_subsL m
              rw [At.subs_eq] at m
              rcases List.mem_cons.mp m with rfl | m
              · obtain ⟨i3, h3⟩ := List.getElem?_of_mem mk'
                have := (fK i3 k' h3).same s1720
                rw [if_pos (by rw [lrk]; have h5 : i3 < (ts.drop j).length := (List.getElem?_eq_some_iff.mp h3).1; rw [List.length_drop] at h5; exact h5)] at this
                exact this
              · exact (fA2 k' mk' q m).same s1720
        · rcases List.mem_append.mp m with m | m
          · exact (st.box t (List.mem_of_mem_take m)).ks kk20
          · rw [List.mem_singleton.mp m]; exact hnb
        · rw [allL_app, eni, List.map_append]
          have h1 : (allL [At.mk x13 nm st12 o (ts.drop j)]).map At.nm = nm :: (allL (ts.drop j)).map At.nm := by rw [allL, allL, List.append_nil, At.all_eq]; rfl
          rw [h1]
          refine (List.perm_middle).trans ?_
          rw [← List.map_append, ← allL_app, ets]
          exact (List.perm_append_singleton _ _).symm.trans (st.perm.append_right _)
        · rw [allL_app] at m
          rcases List.mem_append.mp m with m | m
          · exact ⟨(st.sz b (mfr b m)).1.ks kk20, (st.sz b (mfr b m)).2.ks kk20⟩
          · rw [allL, allL, List.append_nil, At.all_eq] at m
            rcases List.mem_cons.mp m with rfl | m
            · exact ⟨(sz0.tt.ks kk13).ks kk1320, (sz1.tt.ks kk13).ks kk1320⟩
            · exact ⟨(st.sz b (mks b m)).1.ks kk20, (st.sz b (mks b m)).2.ks kk20⟩
        · have ef : fi = true := by rw [← hfi]; exact decide_eq_true e
          have ej := hj2 ef
          subst ej
          rw [ef] at sz0 sz1
          refine ⟨_, rfl, (sz0.ks kk13).ks kk1320, (sz1.ks kk13).ks kk1320, ?_⟩
          rw [List.getLast?_eq_getElem?, show ns.length - 1 = i from by omega]
          exact hnm
    · rintro σ H6 ⟨v3, v7, v8, v9, v10, v11, v12, v13, v14, v15, v16, v17, p, ts, kvs, rfl, st⟩
      rw [List.length_map] at st
      obtain ⟨t, rfl, r0, r1, lst⟩ := st.root rfl
      have pm : (t.all.map At.nm).Perm ns := by
        have := st.perm
        rwa [allL, allL, List.append_nil, List.take_length] at this
      have enm : (t.pre .non).map (·.2.1) = t.all.map At.nm := pre_nms t .non
      have mm : ∀ l ∈ ns, l ∈ (t.pre .non).map (·.2.1) := fun l m => by rw [enm]; exact pm.mem_iff.mpr m
      have tin : ∀ H', KeepS H6 H' → TreeIn H' t := fun H' kk => ⟨by rw [enm]; exact pm.nodup_iff.mpr nd, (fun b m => by
        have z := st.sz b (by rw [allL, allL, List.append_nil]; exact m)
        exact ⟨(z.1.nms mm).ks kk, (z.2.nms mm).ks kk⟩), (r0.nms mm).ks kk, (r1.nms mm).ks kk⟩
      tm_at "rds"
      refine ⟨_, _, _, _, rfl, rfl, sqL st.p, rfl, ?_⟩
      tm_at "rds"
      intro r H7 f7 s7 g7
      refine k r pn d t ns H7 (st.same.trans s7) g7 (s7 _ _ st.pn) nd nok (by omega) (by omega) ⟨(st.box t List.mem_cons_self).ks (Same.ks s7), tin H7 (Same.ks s7), pm, lst, kvs, s7 _ _ st.d, fun q m => (st.facts q ?_).same s7⟩
      rw [subsL, subsL, List.append_nil]
      exact m
end
end My
namespace My
open PySem PySem.Spec PyProof.Rows L2
section
variable {P : Program} {w : World} {K : PySem.W.Frag} {mg : Str → Option Value} {base : Heap}
def sp_w_order : Nat → Sp
  | 0 => fun _ _ _ _ => False
  | n + 1 => fun vs H Q _ => ∃ (d : Addr) (kvs : List (Key × V)) (H0 : Hp) (b : At) (hv : V), vs = [.ref d, .str (sO b.nm)] ∧ H d = some (.dK kvs) ∧ (∀ p ∈ b.subs hv, Fact H0 H kvs p.1 p.2) ∧ b.depth ≤ n ∧ b.all.length ≤ 1000 ∧
    ∀ p H', Same H H' → H' p = some (.lst ((b.all.map At.nm).map fun l => V.str (sO l))) → Q (.ref p) H'
theorem okr_w_order (T : Tx w K mg) : ∀ n : Nat, FnOk P w K mg base CX0 (n + 1) T.d_w_order.f T.d_w_order.fd ["_law_facts", "_law_name"] (sp_w_order n)
  | 0 => (show FnOk P w K mg base CX0 1 _ _ _ _ from T.d_w_order.F.ok (k := 0) (sp := fun _ _ _ _ => False) sc_w_order (fun vs H Q E h => h.elim) (fun cdv A outer s H vs Q E hr h => h.elim))
  | n + 1 => by
    have ih := okr_w_order T n
    refine T.d_w_order.F.ok (k := n + 1) sc_w_order (fun vs H Q E h => ?_) (fun cdv A outer s H vs Q E hr h => ?_)
    · obtain ⟨d, kvs, H0, b, hv, rfl, _⟩ := h
      rfl
    · obtain ⟨d, kvs, H0, b, hv, rfl, hd, hf, hdp, hl, k⟩ := h
      have mb : (b, hv) ∈ b.subs hv := by rw [At.subs_eq]; exact List.mem_cons_self
      obtain ⟨f, l, q, ow, tn, a⟩ := hf _ mb
      refine ⟨_, (pss_cons (ps_set (i := 2) sc_w_order.nd rfl (Or.inl rfl) (pe_lstA (pa_cons (pv 1) pa_nil)))
      (pss_cons (ps_for PassesOwn.never (by rfl) (pi_listK (K := K) rfl (pe_ix (ix_listK (K := K) rfl) (pe_dget (hu_of hr) (pv 0) (pv 1) (fun _ _ => rfl)) pe_int (fun _ _ => rfl))) (pg_name (i := 3) sc_w_order.nd rfl (Or.inl rfl))
      (pss_one (ps_set (i := 2) sc_w_order.nd rfl (Or.inl rfl) (pe_op (op_catK (K := K) rfl) (pv 2) (pe_call ih (hr.mono (Nat.le_refl _)) (by rfl) T.d_w_order.g T.d_w_order.F.kp T.d_w_order.b .nil pass0 (pa_cons (pv 0) (pa_cons (pv 3) pa_nil)))))))
      (pss_one (ps_ret (pv 2))))), ?_⟩
      tm_at "rzs"
      intro p1 H1 f1 s1 g1
      dsimp only [gName]
      tm_at "rzs"
      refine ⟨d, _, rfl, .inl ⟨kvs, keyS b.nm, .inl (s1 _ _ hd), rfl, a.v.symm⟩, ?_⟩
      tm_at "rzs"
      refine ⟨_, _, _, _, rfl, rfl, sqL (s1 _ _ a.f), rfl, ?_⟩
      have hal := hl
      rw [At.all_eq, List.length_cons] at hal
      refine ⟨q, rfl, ⟨_, sqL (s1 _ _ a.q)⟩, for_list (K := K) (a := q) (xs := b.kids.map fun k => V.str (sO k.nm)) (fun i σ H' => ∃ (p : Addr) (v3 : Option V), σ = [some (.ref d), some (.str (sO b.nm)), some (.ref p), v3] ∧ Same H H' ∧ H' p = some (.lst ((b.nm :: (allL (b.kids.take i)).map At.nm).map fun l => V.str (sO l))))
        ⟨p1, _, rfl, s1, g1⟩ (fun i σ H' _ ⟨p, v3, _, s', _⟩ => sqL (s' _ _ a.q)) ?_ ?_⟩
      · rintro i x σ H2 hx ⟨p, v3, rfl, s2, g2⟩
        obtain ⟨j, mj, rfl⟩ := of_map hx
        have mk : j ∈ b.kids := List.mem_of_getElem? mj
        have dj := depth_kid mk
        have hdp' := hdp
        rw [b.depth_eq] at hdp'
        have jd := j.depth_eq
        have etake : b.kids.take (i + 1) = b.kids.take i ++ [j] := by rw [List.take_add_one, mj]; rfl
        have elen : (allL (b.kids.take i)).length + j.all.length ≤ (allL b.kids).length := by
          have e1 : allL (b.kids.take (i + 1)) = allL (b.kids.take i) ++ j.all := by
            rw [etake, allL_app]
            show _ ++ (j.all ++ []) = _
            rw [List.append_nil]
          have e2 := congrArg allL (List.take_append_drop (i + 1) b.kids)
          rw [allL_app] at e2
          have e3 := congrArg List.length e2
          rw [List.length_append, e1, List.length_append] at e3
          omega
        dsimp only [gName]
        cases n with
        | zero => exact absurd hdp' (by omega)
        | succ m =>
        tm_at "rzs"
        refine ⟨d, kvs, H0, j, .str (sO b.nm), rfl, s2 _ _ hd, fun z mz => (hf z (by rw [At.subs_eq]; exact List.mem_cons_of_mem _ (subs_mem mz mk))).same s2, by omega, by omega, fun p3 H3 s3 g3 => ?_⟩
        refine ⟨p, p3, _, _, rfl, rfl, s3 _ _ g2, g3, by rw [sizeLine_eq, List.length_map, List.length_map, List.length_map, List.length_cons, List.length_map]; omega, fun p4 H4 f4 s4 g4 => ?_⟩
        refine ⟨p4, _, rfl, (s2.trans s3).trans s4, ?_⟩
        rw [g4, etake, allL_app, ← List.map_append]
        congr 3
        show b.nm :: _ = _
        rw [List.map_append]
        show _ = b.nm :: (_ ++ (j.all ++ []).map At.nm)
        rw [List.append_nil]
        rfl
      · rintro σ H2 ⟨p, v3, rfl, s2, g2⟩
        tm_at "rzs"
        refine k p H2 s2 ?_
        rw [g2, List.length_map, List.take_length, At.all_eq b]
        rfl
theorem ok_w_order (T : Tx w K mg) : FnOk P w K mg base CX0 21 T.d_w_order.f T.d_w_order.fd ["_law_facts", "_law_name"] (sp_w_order 20) := okr_w_order T 20
end
end My
namespace My
open PySem PySem.Spec PyProof.Rows L2
section
variable {P : Program} {w : World} {K : PySem.W.Frag} {mg : Str → Option Value} {base : Heap}
theorem line_len {a : At} (h : a.kids.length ≤ 1000) : (lineI a).length ≤ 3001 := by
  unfold lineI
  have := List.length_filter_le (fun k => isSt "base" k a) a.kids
  split <;> simp only [List.length_append, List.length_cons, List.length_nil, allI_len] <;> omega
theorem need_few {wd : String} {b : At} {zw zh : Sz} {free : Bool} {ho : Option At} (hb : b.kids.length ≤ 1000) (ha : ∀ a, ho = some a → a.kids.length ≤ 1000) : (needI wd b zw zh free ho).length ≤ 4000 := by
  have hl := line_len hb
  unfold needI
  split
  · unfold leastI
    (repeat' split) <;> (try simp only [List.length_append, List.length_cons, List.length_nil, allI_len]) <;> omega
  split
  · unfold wishI
    (repeat' split) <;> (try simp only [List.length_append, List.length_cons, List.length_nil, allI_len]) <;> omega
  split
  · cases ho with
    | none => exact Nat.zero_le _
    | some a =>
      have h2 := ha a rfl
      unfold wideI
      dsimp only
      (repeat' split) <;> (try simp only [List.length_append, List.length_cons, List.length_nil, allI_len]) <;> omega
  split
  · unfold flowI
    (repeat' split) <;> (try simp only [List.length_append, List.length_cons, List.length_nil, allI_len]) <;> omega
  split
  · unfold riseI
    (repeat' split) <;> (try simp only [List.length_append, List.length_cons, List.length_nil, allI_len]) <;> omega
  split
  · cases ho with
    | none =>
      unfold tallI
      dsimp only
      (repeat' split) <;> (try simp only [List.length_append, List.length_cons, List.length_nil, allI_len]) <;> omega
    | some a =>
      have h2 := ha a rfl
      have hl2 := line_len h2
      unfold tallI
      dsimp only
      (repeat' split) <;> (try simp only [List.length_append, List.length_cons, List.length_nil, allI_len]) <;> omega
  split
  · unfold baseI
    (repeat' split) <;> (try simp only [List.length_append, List.length_cons, List.length_nil, allI_len]) <;> omega
  split
  · cases ho with
    | none => exact Nat.zero_le _
    | some a =>
      have h2 := ha a rfl
      unfold leftI
      dsimp only
      (repeat' split) <;> (try simp only [List.length_append, List.length_cons, List.length_nil, allI_len]) <;> omega
  · cases ho with
    | none => exact Nat.zero_le _
    | some a =>
      have h2 := ha a rfl
      have hl2 := line_len h2
      have h3 := List.length_filter_le (fun k => isSt "base" k a) a.kids
      unfold topI
      dsimp only
      (repeat' split) <;> (try simp only [List.length_append, List.length_cons, List.length_nil, allI_len]) <;> omega
def sp_law (K : PySem.W.Frag) : Sp := fun vs H Q _ => ∃ (a : Addr) (ns : List Int), vs = [.ref a] ∧ SqL K H a (ns.map V.int) ∧ ns.length ≤ 63 ∧ ∀ H', Q (.bl true) H'
theorem ok_law (T : Tx w K mg) : FnOk P w K mg base CX0 26 T.d_law.f T.d_law.fd ["_law_script"] (sp_law K) := by
  refine T.d_law.F.ok sc_law (fun vs H Q E h => ?_) (fun cdv A outer s H vs Q E hr h => ?_)
  · obtain ⟨a, s, rfl, _⟩ := h
    rfl
  · obtain ⟨a, is, rfl, hS, hl, k⟩ := h
    refine ⟨_, (pss_cons (ps_asg (pe_call (ok_w_tree T) (hr.mono (by decide)) (by rfl) T.d_w_tree.g T.d_w_tree.F.kp T.d_w_tree.b .nil pass0 (pa_cons (pv 0) (pa_cons pe_int (pa_cons pe_int pa_nil)))) (pg_tup (by rfl) (pgs_cons (pg_name (i := 1) sc_law.nd rfl (Or.inl rfl)) (pgs_cons (pg_name (i := 2) sc_law.nd rfl (Or.inl rfl)) (pgs_cons (pg_name (i := 3) sc_law.nd rfl (Or.inl rfl)) pgs_nil)))))
      (pss_cons (ps_set (i := 4) sc_law.nd rfl (Or.inl rfl) (pe_ix (ix_listK (K := K) rfl) (pe_lstA (pa_cons pe_non (pa_cons pe_int pa_nil))) (pe_op op_mod (pe_call (ok_w_cell_at T) (hr.mono (by decide)) (by rfl) T.d_w_cell_at.g T.d_w_cell_at.F.kp T.d_w_cell_at.b .nil pass0 (pa_cons (pv 0) (pa_cons pe_int pa_nil))) pe_int) (fun _ _ => rfl)))
      (pss_cons (ps_set (i := 5) sc_law.nd rfl (Or.inl rfl) (pe_lstA (pa_cons pe_str (pa_cons pe_str (pa_cons pe_str (pa_cons pe_str (pa_cons pe_str (pa_cons pe_str (pa_cons pe_str (pa_cons pe_str (pa_cons pe_str pa_nil)))))))))))
      (pss_cons (ps_set (i := 6) sc_law.nd rfl (Or.inl rfl) (pe_callN (ok_asked T) (hr.mono (by decide)) (by rfl) T.d_asked.g T.d_asked.F.kp (kb_asked_1_wide_high T) pass0 (pa_cons (pv 1) pa_nil) (pk_cons pe_int (pk_cons (pv 4) pk_nil))))
      (pss_cons (ps_if (PW.pt (pw_or (pt_not (pt_val (pe_callB is_list (by rfl) T.b_isinstance (by decide +kernel) (pa_cons (pv 6) (pa_cons (pe_bltn (v := .ty "list") (by rfl) T.b_list (by decide +kernel) rfl) pa_nil))))) (pw_or1 (pt_not (pt_val (pe_callB (cr_allK (K := K) rfl rfl) (by rfl) T.b_all (by decide +kernel) (pa_cons (pe_lc (own := [("_law_one", 12)]) (g := gName 12) (by rfl) sc_law.nd (pi_listK (K := K) rfl (pv 6)) (blkOk_by (own := [("_law_one", 12)]) (N := N_law) (sc := defScope s_law) (by decide +kernel)) (fun _ _ _ _ _ => (pg_name (i := 12) sc_law.nd rfl (Or.inl rfl))) (fun _ _ _ _ _ => pts_nil) (fun _ _ _ _ _ => (pe_and (pe_callB is_tuple (by rfl) T.b_isinstance (by decide +kernel) (pa_cons (pv 12) (pa_cons (pe_bltn (v := .ty "tuple") (by rfl) T.b_tuple (by decide +kernel) rfl) pa_nil))) (pe_one (pe_cmpR op_eq (pe_callB (call_lenK (K := K) rfl) (by rfl) T.b_len (by decide +kernel) (pa_cons (pv 12) pa_nil)) pe_int (nomark _)))))) pa_nil)))))))
      (pss_one (ps_ret pe_bl))
      pss_nil)
      (pss_cons (ps_set (i := 7) sc_law.nd rfl (Or.inl rfl) (pe_lstA pa_nil))
      (pss_cons (ps_for PassesOwn.never (by rfl) (pi_listK (K := K) rfl (pe_lstA (pa_cons pe_str (pa_cons pe_str (pa_cons pe_str (pa_cons pe_str pa_nil)))))) (pg_name (i := 8) sc_law.nd rfl (Or.inr rfl))
      (pss_one (ps_set (i := 7) sc_law.nd rfl (Or.inl rfl) (pe_op (op_catK (K := K) rfl) (pv 7) (pe_lc (own := [("_law_name", 9)]) (g := gName 9) (by rfl) sc_law.nd (pi_listK (K := K) rfl (pv 2)) (blkOk_by (own := [("_law_name", 9)]) (N := N_law) (sc := defScope s_law) (by decide +kernel)) (fun _ _ _ _ _ => (pg_name (i := 9) sc_law.nd rfl (Or.inl rfl))) (fun _ _ _ _ _ => pts_nil) (fun _ _ _ _ _ => (pe_tupA (pa_cons (pv 9) (pa_cons (pv 8) pa_nil)))))))))
      (pss_cons (ps_set (i := 10) sc_law.nd rfl (Or.inr rfl) pe_dnewTA)
      (pss_cons (ps_while PassesOwn.never (pt_cmpR (op_ne0K (K := K) hr.units rfl) (pv 7) (pe_lstA pa_nil) (nomark _))
      (pss_cons (ps_asg (pe_bm0 PySem.F.plainAttrs_list PySem.F.slot_list_pop PySem.F.type_list_pop mt_pop (pv 7)) (pg_tup (by rfl) (pgs_cons (pg_name (i := 9) sc_law.nd rfl (Or.inr rfl)) (pgs_cons (pg_name (i := 8) sc_law.nd rfl (Or.inr rfl)) pgs_nil))))
      (pss_one (ps_if (pt_cmp (pc_dnotin (hu_of hr) (pe_tupA (pa_cons (pv 9) (pa_cons (pv 8) pa_nil))) (pv 10)))
      (pss_cons (ps_dput (hu_of hr) (pv 10) (pe_tupA (pa_cons (pv 9) (pa_cons (pv 8) pa_nil))) pe_bl rfl)
      (pss_one (ps_set (i := 7) sc_law.nd rfl (Or.inl rfl) (pe_op (op_catK (K := K) rfl) (pv 7) (pe_callN (ok_needs T) (hr.mono (by decide)) (by rfl) T.d_needs.g T.d_needs.F.kp (kb_needs_3_wide_high T) pass0 (pa_cons (pv 1) (pa_cons (pv 9) (pa_cons (pv 8) pa_nil))) (pk_cons pe_int (pk_cons (pv 4) pk_nil)))))))
      pss_nil))))
      (pss_cons (ps_set (i := 11) sc_law.nd rfl (Or.inl rfl) (pe_lstA pa_nil))
      (pss_cons (ps_for PassesOwn.never (by rfl) (pi_listK (K := K) rfl (pe_call (ok_w_order T) (hr.mono (by decide)) (by rfl) T.d_w_order.g T.d_w_order.F.kp T.d_w_order.b .nil pass0 (pa_cons (pv 3) (pa_cons (pe_ix (ix_listK (K := K) rfl) (pv 2) (pe_un un_neg pe_int) (fun _ _ => rfl)) pa_nil)))) (pg_name (i := 9) sc_law.nd rfl (Or.inr rfl))
      (pss_one (ps_set (i := 11) sc_law.nd rfl (Or.inl rfl) (pe_op (op_catK (K := K) rfl) (pv 11) (pe_lc (own := [("_law_word", 8)]) (g := gName 8) (by rfl) sc_law.nd (pi_listK (K := K) rfl (pv 5)) (blkOk_by (own := [("_law_word", 8)]) (N := N_law) (sc := defScope s_law) (by decide +kernel)) (fun _ _ _ _ _ => (pg_name (i := 8) sc_law.nd rfl (Or.inl rfl))) (fun _ _ _ _ _ => (pts_one (pt_cmp (pc_din (hu_of hr) (pe_tupA (pa_cons (pv 9) (pa_cons (pv 8) pa_nil))) (pv 10))))) (fun _ _ _ _ _ => (pe_tupA (pa_cons (pv 9) (pa_cons (pv 8) pa_nil)))))))))
      (pss_cons (ps_if (PW.pt (pw_or (pt_cmpR (op_neDK (K := K) hr.units rfl) (pv 6) (pv 11) (nomark _)) (pw_or1 (pt_cmpR op_ne (pe_callB (call_lenK (K := K) rfl) (by rfl) T.b_len (by decide +kernel) (pa_cons (pv 11) pa_nil)) (pe_callB call_len_dT (by rfl) T.b_len (by decide +kernel) (pa_cons (pv 10) pa_nil)) (nomark _)))))
      (pss_one (ps_ret pe_bl))
      pss_nil)
      (pss_cons (ps_expr (pe_bm0 PySem.F.plainAttrs_list PySem.F.slot_list_clear PySem.F.type_list_clear mt_clearA (pv 6)))
      (pss_one (ps_ret (pe_cmpR (op_eqDK (K := K) hr.units rfl) (pe_callN (ok_asked T) (hr.mono (by decide)) (by rfl) T.d_asked.g T.d_asked.F.kp (kb_asked_1_wide_high T) pass0 (pa_cons (pv 1) pa_nil) (pk_cons pe_int (pk_cons (pv 4) pk_nil))) (pv 11) (nomark _))))))))))))))))), ?_⟩
    tm_at "rzs"
    refine ⟨a, is, 8, 2, rfl, hS, hl, by decide, by decide, fun r pn d t ns H1 s1 gr gpn nd nok n1 n8 tt => ?_⟩
    refine ⟨r, _, rfl, sqT gr, rfl, ?_⟩
    have lall : t.all.length = ns.length := by have := tt.perm.length_eq; rwa [List.length_map] at this
    have dep : t.depth ≤ 19 := by have := depth_all t; omega
    have lpre : (t.pre .non).length ≤ 8 := by
      have := congrArg List.length (pre_nms t .non)
      rw [List.length_map, List.length_map] at this
      omega
    dsimp only [gName]
    tm_at "rzs"
    intro p2 H2 f2 s2 g2
    refine ⟨_, rfl, ?_⟩
    refine ⟨a, is, rfl, (s1.trans s2).seq hS, hl, ?_⟩
    obtain ⟨fh, hfx, hfh⟩ : ∃ fh, atI [V.non, V.int 30] (is.headD 0 % 2) = some fh ∧ (fh = .non ∨ ∃ m : Int, fh = .int m ∧ 0 ≤ m) := by
      have : is.headD 0 % 2 = 0 ∨ is.headD 0 % 2 = 1 := by omega
      rcases this with e | e <;> rw [e]
      · exact ⟨.non, rfl, .inl rfl⟩
      · exact ⟨.int 30, rfl, .inr ⟨30, rfl, by decide⟩⟩
    refine ⟨_, _, rfl, rfl, (show (0 : Int) < 2 from by decide), ?_⟩
    refine ⟨_, _, _, _, rfl, rfl, sqL g2, hfx, ?_⟩
    dsimp only [gName]
    tm_at "rzs"
    intro p3 H3 f3 s3 g3
    have s13 := s2.trans s3
    dsimp only [gName]
    -- what each needs
    obtain ⟨F, hF⟩ : ∃ F : List Nat → At × V × Option At × Sz × Sz, ∀ n ∈ namesT t, NdAt (bcT T) T.c_Style.C K H1 t n (F n).1 (F n).2.1 (F n).2.2.1 (F n).2.2.2.1 (F n).2.2.2.2 := by
      refine ⟨fun n => @dite _ (n ∈ namesT t) (Classical.propDecidable _) (fun m => ⟨(nd_all tt.box tt.tin n m).choose, (nd_all tt.box tt.tin n m).choose_spec.choose, (nd_all tt.box tt.tin n m).choose_spec.choose_spec.choose, (nd_all tt.box tt.tin n m).choose_spec.choose_spec.choose_spec.choose, (nd_all tt.box tt.tin n m).choose_spec.choose_spec.choose_spec.choose_spec.choose⟩) (fun _ => ⟨t, .non, none, .non, .non⟩), fun n m => ?_⟩
      dsimp only
      rw [dif_pos m]
      exact (nd_all tt.box tt.tin n m).choose_spec.choose_spec.choose_spec.choose_spec.choose_spec
    obtain ⟨N, hN⟩ : ∃ N : Item → List Item, ∀ it, N it = needI it.2 (F it.1).1 (F it.1).2.2.2.1 (F it.1).2.2.2.2 (decide (fh = .non)) (F it.1).2.2.1 := ⟨fun it => needI it.2 (F it.1).1 (F it.1).2.2.2.1 (F it.1).2.2.2.2 (decide (fh = .non)) (F it.1).2.2.1, fun it => rfl⟩
    have hNi : ∀ it, it.1 ∈ namesT t → ∀ jt ∈ N it, InU (namesT t) jt := fun it m jt mj => (hF it.1 m).ins it.2 (decide (fh = .non)) jt (by rw [← hN]; exact mj)
    obtain ⟨q, hq⟩ : ∃ q : Item → Bool, ∀ it, q it = true ↔ Rch N (resI (fun _ => true) placed4 (namesT t)) it := ⟨fun it => @decide _ (Classical.propDecidable (Rch N (resI (fun _ => true) placed4 (namesT t)) it)), fun it => by
      constructor
      · exact fun h => @of_decide_eq_true _ (Classical.propDecidable _) h
      · exact fun h => @decide_eq_true _ (Classical.propDecidable _) h⟩
    tm_at "rzs"
    refine ⟨t, 25, fh, N, q, rfl, tt.box.ks (Same.ks s13), dep, by omega, tt.tin.ks (Same.ks s13), by decide, hfh, fun it hu => ⟨_, _, _, _, _, (hF it.1 hu.1).ks (Same.ks s13), hN it⟩, fun it _ => hq it, fun pA us H4 s4 f4 g4 i4 => ?_⟩
    dsimp only [gName]
    have s14 := s13.trans s4
    tm_at "rzs"
    have ln9 : (namesT t).length ≤ 8 := by unfold namesT; rw [List.length_map]; exact lpre
    have hres : (resI q words9 (namesT t)).length ≤ 72 := by
      have h1 := len_resI q words9 (namesT t)
      have : (namesT t).length * words9.length = (namesT t).length * 9 := rfl
      omega
    have lus : us.length ≤ 72 := by rw [i4.1]; exact hres
    refine ⟨⟨_, sqL g4⟩, fun D hD => lcLx (K := K) (xs := us) (fun _ => .bl true) hD (sqL g4) (by omega) (fun i y H5 Kt Kf hy s5 kt => ?_) (fun H5 s5 g5 => ?_)⟩
    · have hi := (List.getElem?_eq_some_iff.mp hy).1
      have hc : (resI q words9 (namesT t))[i]? = some ((resI q words9 (namesT t))[i]'(by rw [← i4.1]; exact hi)) := List.getElem?_eq_getElem (by rw [← i4.1]; exact hi)
      obtain ⟨p, rfl, gp⟩ := i4.2 i _ _ hy hc
      have gp5 := s5 _ _ gp
      have fin5 : ∀ b : Bool, b = true → Kt (.bl b) H5 := fun b h => h ▸ kt _ (Same.refl _)
      tm_at "rzs"
      exact fin5 _ (decide_eq_true rfl)
    rw [bls _ fun _ => true] at g5
    tm_at "rzs"
    refine ⟨D, _, rfl, sqL g5, ?_⟩
    rw [all_true]
    have s15 := s14.trans s5
    tm_at "rzs"
    intro p6 H6 f6 s6 g6
    dsimp only [gName]
    tm_at "rds"
    intro p7 H7 f7 s7 g7
    have nf6 : H1 p6 = none := s15.free f6
    have s16 := s15.trans s6
    have n67 : p6 ≠ p7 := by rintro rfl; rw [g6] at f7; cases f7
    have s67 : Same H1 H7 := s16.trans s7
    refine ⟨p7, rfl, ⟨_, sqL g7⟩, for_list (K := K) (a := p7) (xs := placed4.map sX) (fun i σ H' => ∃ (pw : Addr) (ws : List V) (v8 v9 : Option V), σ = [some (.ref a), some (.ref t.x), some (.ref pn), some (.ref d), some fh, some (.ref p3), some (.ref pA), some (.ref pw), v8, v9, none, none, none] ∧ Same H7 H' ∧ H1 pw = none ∧ (pw ≠ pA ∧ pw ≠ p3) ∧ H' pw = some (.lst ws) ∧ ws.length ≤ 8 * i ∧ ItmsAt H' ws ((placed4.take i).flatMap fun w => ns.map fun n => (n, w)))
      ⟨p6, [], _, _, rfl, Same.refl _, nf6, ⟨(by rintro rfl; rw [s5 _ _ g4] at f6; cases f6), (by rintro rfl; rw [s5 _ _ (s4 _ _ g3)] at f6; cases f6)⟩, s7 _ _ g6, Nat.zero_le _, .nil⟩ (fun i σ H' _ ⟨_, _, _, _, _, s', _⟩ => sqL (s' _ _ g7)) ?_ ?_⟩
    · rintro i xv σ H8 hx ⟨pw, ws, v8, v9, rfl, s8, fw, npA0, gw, lw, iw⟩
      obtain ⟨w, hw, rfl⟩ := of_map hx
      have s18 := s67.trans s8
      have hi4 : i < 4 := (List.getElem?_eq_some_iff.mp hw).1
      dsimp only [gName]
      refine ⟨_, rfl, ?_⟩
      refine ⟨_, rfl, ?_⟩
      refine ⟨pn, rfl, ⟨_, sqL (s18 _ _ gpn)⟩, fun D2 hD2 => lcItF (K := K) (fun l => V.str (sO l)) (fun n => (n, w)) (fun _ => true) hD2 (sqL (s18 _ _ gpn)) (by omega) (fun j y H9 Kt Kf hy s9 kt kf => ?_) (fun us9 H9 s9 g9 i9 => ?_)⟩
      · tm_at "rzs"
        intro p G fp sp gp
        exact kt rfl p G sp fp gp
      rw [List.filter_eq_self.mpr fun _ _ => rfl] at i9
      have l9 : us9.length ≤ 8 := by rw [i9.1, List.length_map]; exact_mod_cast n8
      refine ⟨pw, D2, _, _, rfl, rfl, s9 _ _ gw, g9, by rw [sizeLine_eq]; omega, fun p10 H10 f10 s10 g10 => ?_⟩
      have s810 := s9.trans s10
      refine ⟨p10, _, _, _, rfl, s8.trans s810, (s18.trans s9).free f10, ⟨(by rintro rfl; rw [s9 _ _ (s8 _ _ (s7 _ _ (s6 _ _ (s5 _ _ g4))))] at f10; cases f10), (by rintro rfl; rw [s9 _ _ (s8 _ _ (s7 _ _ (s6 _ _ (s5 _ _ (s4 _ _ g3)))))] at f10; cases f10)⟩, g10, by rw [List.length_append]; omega, ?_⟩
      rw [List.take_add_one, hw, List.flatMap_append]
      show ItmsAt _ _ (_ ++ (ns.map (fun n => (n, w)) ++ []))
      rw [List.append_nil]
      exact (iw.ks (Same.ks s810)).app (i9.ks (Same.ks s10))
    rintro σ H8 ⟨pw, ws, v8, v9, rfl, s8, fw, npA0, gw, lw, iw⟩
    have lw : ws.length ≤ 32 := lw
    have iw : ItmsAt H8 ws (placed4.flatMap fun w => ns.map fun n => (n, w)) := iw
    generalize hW : (placed4.flatMap fun w => ns.map fun n => (n, w)) = W0 at iw
    have mW : ∀ it, it ∈ W0 ↔ it.1 ∈ ns ∧ it.2 ∈ placed4 := fun it => by
      rw [← hW, List.mem_flatMap]
      constructor
      · rintro ⟨w, mw, m⟩
        obtain ⟨n, mn, rfl⟩ := List.mem_map.mp m
        exact ⟨mn, mw⟩
      · rintro ⟨mn, mw⟩
        exact ⟨it.2, mw, List.mem_map.mpr ⟨it.1, mn, rfl⟩⟩
    have s18 := s67.trans s8
    dsimp only
    tm_at "rzs"
    intro E H9 fE s9 gE
    have hE1 : H1 E = none := s18.free fE
    have npE : pw ≠ E := by rintro rfl; rw [gw] at fE; cases fE
    have s19 := s18.trans s9
    have iw9 := iw.ks (Same.ks s9)
    have gw9 := s9 _ _ gw
    have eN : ∀ nm, nm ∈ namesT t ↔ nm ∈ ns := fun nm => by rw [namesT_all]; exact tt.perm.mem_iff
    have pw9 : ∀ w ∈ placed4, w ∈ words9 := by decide
    have mS : ∀ it, it ∈ resI (fun _ => true) placed4 (namesT t) ↔ it ∈ W0 := fun it => by
      rw [mem_resI, mW it, eN]
      exact ⟨fun h => ⟨h.1, h.2.1⟩, fun h => ⟨h.1, h.2, rfl⟩⟩
    generalize hSe : resI (fun _ => true) placed4 (namesT t) = S at hq mS
    have hUl : ∀ kn, missI (namesT t) kn ≤ 72 := fun kn => by
      have h1 := List.length_filter_le (fun it => decide (it ∉ kn)) (uniI (namesT t))
      have h2 := len_resI (fun _ => true) words9 (namesT t)
      have : (namesT t).length * words9.length = (namesT t).length * 9 := rfl
      unfold missI
      unfold uniI at h1 ⊢
      omega
    have hW0l : W0.length ≤ 32 := by rw [← iw.1]; exact lw
    have W0U : ∀ it ∈ W0, InU (namesT t) it := fun it m => ⟨(eN _).mpr ((mW it).mp m).1, pw9 _ ((mW it).mp m).2⟩
    have nfew : ∀ it, it.1 ∈ namesT t → (N it).length ≤ 4000 := fun it m => by
      have h := hF it.1 m
      rw [hN]
      refine need_few h.box.few fun a e => ?_
      rcases h.hho with ⟨_, e2⟩ | ⟨a2, hw, _, _, ba, e2, _⟩
      · rw [e2] at e; cases e
      · rw [e2] at e; cases e; exact ba.few
    show tSeq (tWhile _ _) _ _ [some (.ref a), some (.ref t.x), some (.ref pn), some (.ref d), some fh, some (.ref p3), some (.ref pA), some (.ref pw), v8, v9, some (.ref E), none, none] H9
    refine ⟨fun m σ G => ∃ (pw : Addr) (ws : List V) (wi sn : List Item) (kvs : List (List Key × V)) (v8 v9 : Option V), σ = [some (.ref a), some (.ref t.x), some (.ref pn), some (.ref d), some fh, some (.ref p3), some (.ref pA), some (.ref pw), v8, v9, some (.ref E), none, none] ∧ Same H1 G ∧ H1 pw = none ∧ (pw ≠ pA ∧ pw ≠ p3) ∧ G pw = some (.lst ws) ∧ ItmsAt G ws wi ∧ G E = some (.dT kvs) ∧ KnAt kvs sn ∧ m = missI (namesT t) sn * 5000 + wi.length ∧ m ≤ 400000 ∧ sn.length + missI (namesT t) sn ≤ 100 ∧ sn.Nodup ∧ (∀ it ∈ sn, Rch N S it ∧ InU (namesT t) it) ∧ (∀ it ∈ wi, Rch N S it ∧ InU (namesT t) it) ∧ (∀ it ∈ S, it ∈ sn ∨ it ∈ wi) ∧ (∀ a ∈ sn, ∀ b ∈ N a, b ∈ sn ∨ b ∈ wi) ∧ G pA = some (.lst us) ∧ G p3 = some (.lst (words9.map sX)) ∧ ItmsAt G us (resI q words9 (namesT t)),
      ⟨_, pw, ws, W0, [], [], v8, v9, rfl, s19, fw, npA0, gw9, iw9, gE, .nil, rfl, by have := hUl []; omega, by have := hUl []; simpa using by omega, List.nodup_nil, (fun it m => by cases m), (fun it m => ⟨.base ((mS it).mpr m), W0U it m⟩), (fun it m => .inr ((mS it).mp m)), (fun a m => by cases m), s9 _ _ (s8 _ _ (s7 _ _ (s6 _ _ (s5 _ _ g4)))), s9 _ _ (s8 _ _ (s7 _ _ (s6 _ _ (s5 _ _ (s4 _ _ g3))))), i4.ks (Same.ks ((((s5.trans s6).trans s7).trans s8).trans s9))⟩, ?_⟩
    rintro m σ G ⟨pw, ws, wi, sn, kvs, v8, v9, rfl, sG, fpw, npA1, gpw, iwi, gE, hk, em, hm0, hb, hnd, hsn, hwi, hS0, hcl, gpA, gp3, igA⟩
    dsimp only [gName]
    refine ⟨_, rfl, ?_⟩
    tm_at "rds"
    intro pe G1 fe se ge
    refine ⟨pe, rfl, sqL ge, .inr ⟨pw, ws, rfl, sqL (se _ _ gpw), ?_⟩⟩
    refine ⟨_, rfl, ?_⟩
    have s1G := sG.trans se
    have iw1 := iwi.ks (Same.ks se)
    have gp1 := se _ _ gpw
    have gE1 := se _ _ gE
    have gA1 := se _ _ gpA
    have npwE : pw ≠ E := by rintro rfl; rw [gpw] at gE; cases gE
    have npA : pA ≠ pw := npA1.1.symm
    have npW : p3 ≠ pw := npA1.2.symm
    have g31 := se _ _ gp3
    have iA1 := igA.ks (Same.ks se)
    rcases List.eq_nil_or_concat ws with rfl | ⟨ws', v, rfl⟩
    · refine iteF' (by rfl) ?_
      have ewi : wi = [] := List.length_eq_zero_iff.mp iw1.1.symm
      subst ewi
      have ek : ∀ it, InU (namesT t) it → (it ∈ sn ↔ q it = true) := fun it hu => by
        rw [hq it]
        exact ⟨fun m => (hsn it m).1, fun h => h.le (P := fun it => it ∈ sn) (fun x mx => (hS0 x mx).elim id fun z => by cases z) fun x mx b mb => (hcl x mx b mb).elim id fun z => by cases z⟩
      have hlast : atI (ns.map fun l => V.str (sO l)) (-1) = some (.str (sO t.nm)) := by
        have h1 := tt.last
        rw [List.getLast?_eq_getElem?] at h1
        show (ixN (ns.map fun l => V.str (sO l)).length (-1)).bind (fun i => (ns.map fun l => V.str (sO l))[i]?) = _
        rw [show ixN (ns.map fun l => V.str (sO l)).length (-1) = some (ns.length - 1) from by
          rw [List.length_map]
          unfold ixN
          rw [if_neg (by decide), if_pos (by omega)]
          congr 1; omega]
        show (ns.map fun l => V.str (sO l))[ns.length - 1]? = _
        rw [List.getElem?_map, h1]; rfl
      obtain ⟨kvF, hdF, hfF⟩ := tt.facts
      tm_at "rzs"
      intro p20 G20 f20 s20 g20
      dsimp only [gName]
      have s1G20 := s1G.trans s20
      refine ⟨_, rfl, ?_⟩
      refine ⟨_, rfl, ?_⟩
      refine ⟨_, rfl, ?_⟩
      refine ⟨_, _, _, _, rfl, rfl, sqL (s1G20 _ _ gpn), hlast, ?_⟩
      refine ⟨d, kvF, H, t, .non, rfl, s1G20 _ _ hdF, fun z mz => (hfF z mz).same s1G20, dep, by omega, fun po G21 s21 g21 => ?_⟩
      rw [← namesT_all] at g21
      have s121 := s1G20.trans s21
      have g2021 := s21 _ _ g20
      have gE21 := s21 _ _ (s20 _ _ gE1)
      have hp20 : H1 p20 = none := s1G.free f20
      have sG321 : G21 p3 = some (.lst (words9.map sX)) := s21 _ _ (s20 _ _ g31)
      refine ⟨po, rfl, ⟨_, sqL g21⟩, for_list (K := K) (a := po) (xs := (namesT t).map fun l => V.str (sO l)) (fun i σ H' => ∃ (pd : Addr) (ws : List V) (v8 v9 : Option V), σ = [some (.ref a), some (.ref t.x), some (.ref pn), some (.ref d), some fh, some (.ref p3), some (.ref pA), some (.ref pw), v8, v9, some (.ref E), some (.ref pd), none] ∧ Same G21 H' ∧ pd ≠ pA ∧ H' pd = some (.lst ws) ∧ ws.length ≤ 9 * i ∧ ItmsAt H' ws (resI q words9 ((namesT t).take i)))
        ⟨p20, [], _, _, rfl, Same.refl _, (by rintro rfl; rw [gA1] at f20; cases f20), g2021, Nat.zero_le _, .nil⟩ (fun i σ H' _ ⟨_, _, _, _, _, s', _⟩ => sqL (s' _ _ g21)) ?_ ?_⟩
      · rintro i xv σ G22 hx ⟨pd, ws, v8, v9, rfl, s22, npd, gd22, lw22, iw22⟩
        obtain ⟨n, hn, rfl⟩ := of_map hx
        have hi8 : i < (namesT t).length := (List.getElem?_eq_some_iff.mp hn).1
        have mn : n ∈ namesT t := List.mem_of_getElem? hn
        dsimp only [gName]
        refine ⟨_, rfl, ?_⟩
        refine ⟨_, rfl, ?_⟩
        refine ⟨p3, rfl, ⟨_, sqL (s22 _ _ sG321)⟩, fun D2 hD2 => lcItF (K := K) sX (fun w => (n, w)) (fun w => q (n, w)) (ys := words9) hD2 (sqL (s22 _ _ sG321)) (by decide) (fun j y H9 Kt Kf hy s9' kt kf => ?_) (fun us9 H9 s9' g9 i9 => ?_)⟩
        · have mw : y ∈ words9 := List.mem_of_getElem? hy
          tm_at "rzs"
          intro p G fp sp gp
          have gE' := sp _ _ (s9' _ _ (s22 _ _ gE21))
          tm_at "rzs"
          refine ⟨E, _, rfl, DGet.t (k := itK (n, y)) gE' (by rw [itK_kV]; exact gp), ?_⟩
          have er : (valV kvs (itK (n, y))).isSome = q (n, y) := Bool.eq_iff_iff.mpr ((hk.1 (n, y)).trans (ek (n, y) ⟨mn, mw⟩))
          rw [er]
          refine ⟨_, rfl, ?_⟩
          cases e : q (n, y) with
          | true =>
            refine iteT' rfl ?_
            tm_at "rzs"
            intro p2' G2 fp2 sp2 gp2
            exact kt e p2' G2 (sp.trans sp2) (sp.free fp2) gp2
          | false =>
            refine iteF' rfl ?_
            exact kf e _ sp
        have i9 : ItmsAt H9 us9 (rowI q words9 n) := i9
        have l9 : us9.length ≤ 9 := by rw [i9.1]; exact len_rowI q words9 n
        refine ⟨pd, D2, _, _, rfl, rfl, s9' _ _ gd22, g9, by rw [sizeLine_eq]; omega, fun p10 H10 f10 s10 g10 => ?_⟩
        have s910 := s9'.trans s10
        refine ⟨p10, _, _, _, rfl, s22.trans s910, (by rintro rfl; rw [s9' _ _ (s22 _ _ (s21 _ _ (s20 _ _ gA1)))] at f10; cases f10), g10, by rw [List.length_append]; omega, ?_⟩
        rw [resI_take hn]
        exact (iw22.ks (Same.ks s910)).app (i9.ks (Same.ks s10))
      rintro σ G22 ⟨pd, ws, v8, v9, rfl, s22, npd, gd22, lw22, iw22⟩
      rw [List.length_map, List.take_length] at iw22
      have lw22 : ws.length ≤ 72 := by rw [iw22.1]; exact hres
      have gA22 := s22 _ _ (s21 _ _ (s20 _ _ gA1))
      have iA22 := iA1.ks (Same.ks ((s20.trans s21).trans s22))
      have ndT : (namesT t).Nodup := tt.tin.nd
      have ndR : (resI q words9 (namesT t)).Nodup := nd_resI (by decide) ndT
      have lsn : (resI q words9 (namesT t)).length = sn.length := same_len ndR hnd fun it => by
        rw [mem_resI]
        constructor
        · exact fun h => (ek it ⟨h.1, h.2.1⟩).mpr h.2.2
        · exact fun h => ⟨(hsn it h).2.1, (hsn it h).2.2, (ek it (hsn it h).2).mp h⟩
      have nmR : ∀ it ∈ resI q words9 (namesT t), NameOk it.1 := fun it m => nok it.1 ((eN _).mp (mem_resI.mp m).1)
      have shR := its_shaped nmR
      tm_at "rzs"
      refine ⟨_, _, dp_its (sqL gA22) iA22, dp_its (sqL gd22) iw22, shR, shR, ?_⟩
      rw [its_same]
      refine ⟨_, rfl, ?_⟩
      refine iteF' (by rfl) ?_
      have gE22 := s22 _ _ gE21
      tm_at "rzs"
      refine iteF' (by rw [iw22.1, hk.2, lsn, decide_eq_true rfl]; rfl) ?_
      have hA1 : H1 pA = none := s13.free f4
      refine ⟨_, rfl, .inl ⟨rfl, _, sqL gA22⟩, pA, us, rfl, rfl, gA22, fun G23 b23 g23 => ?_⟩
      have s123 : Same H1 G23 := Same.mut' (s121.trans s22) b23 hA1
      have k23 : KeepS G22 G23 := KeepS.refl.butL b23 gA22
      have gd23 := b23.app npd gd22
      tm_at "rzs"
      refine ⟨t, 25, fh, N, q, rfl, tt.box.ks (Same.ks s123), dep, by omega, tt.tin.ks (Same.ks s123), by decide, hfh, fun it hu => ⟨_, _, _, _, _, (hF it.1 hu.1).ks (Same.ks s123), hN it⟩, fun it _ => by rw [hSe]; exact hq it, fun pB vs G24 s24 f24 g24 i24 => ?_⟩
      refine ⟨_, rfl, ?_⟩
      refine ⟨_, _, dp_its (sqL g24) i24, dp_its (sqL (s24 _ _ gd23)) ((iw22.ks k23).ks (Same.ks s24)), shR, shR, ?_⟩
      rw [its_same]
      exact k _
    refine iteT' (by simp) ?_
    obtain ⟨wi', it, rfl⟩ : ∃ wi' it, wi = wi' ++ [it] := by
      rcases List.eq_nil_or_concat wi with rfl | ⟨wi', it, e⟩
      · have := iw1.1
        rw [List.concat_eq_append, List.length_append] at this
        simp at this
      · exact ⟨wi', it, by rw [e, List.concat_eq_append]⟩
    rw [List.concat_eq_append] at iw1 gp1
    have lw' : ws'.length = wi'.length := by
      have := iw1.1
      rw [List.length_append, List.length_append] at this
      simpa using this
    have hitm : ItAt G1 v it := iw1.2 ws'.length v it (by rw [List.getElem?_concat_length]) (by rw [lw', List.getElem?_concat_length])
    have iD' : ItmsAt G1 ws' wi' := ⟨lw', fun j u jt a b => iw1.2 j u jt (by rw [List.getElem?_append_left (List.getElem?_eq_some_iff.mp a).1]; exact a) (by rw [List.getElem?_append_left (List.getElem?_eq_some_iff.mp b).1]; exact b)⟩
    refine ⟨fun σ' G' => ∃ m', m' < m ∧ ∃ (pw : Addr) (ws : List V) (wi sn : List Item) (kvs : List (List Key × V)) (v8 v9 : Option V), σ' = [some (.ref a), some (.ref t.x), some (.ref pn), some (.ref d), some fh, some (.ref p3), some (.ref pA), some (.ref pw), v8, v9, some (.ref E), none, none] ∧ Same H1 G' ∧ H1 pw = none ∧ (pw ≠ pA ∧ pw ≠ p3) ∧ G' pw = some (.lst ws) ∧ ItmsAt G' ws wi ∧ G' E = some (.dT kvs) ∧ KnAt kvs sn ∧ m' = missI (namesT t) sn * 5000 + wi.length ∧ m' ≤ 400000 ∧ sn.length + missI (namesT t) sn ≤ 100 ∧ sn.Nodup ∧ (∀ it ∈ sn, Rch N S it ∧ InU (namesT t) it) ∧ (∀ it ∈ wi, Rch N S it ∧ InU (namesT t) it) ∧ (∀ it ∈ S, it ∈ sn ∨ it ∈ wi) ∧ (∀ a ∈ sn, ∀ b ∈ N a, b ∈ sn ∨ b ∈ wi) ∧ G' pA = some (.lst us) ∧ G' p3 = some (.lst (words9.map sX)) ∧ ItmsAt G' us (resI q words9 (namesT t)), fun σ' G' h => h, ?_⟩
    refine ⟨_, rfl, .inl ⟨rfl, _, sqL gp1⟩, pw, _, v, rfl, rfl, gp1, by simp, ?_⟩
    obtain ⟨p, rfl, gp⟩ := hitm
    have hit := hwi it (by simp)
    rw [show (ws' ++ [V.ref p]).dropLast = ws' from by simp]
    have b2 : But pw G1 (upd G1 pw (.lst ws')) := But.upd But.refl
    have k2 : KeepS G1 (upd G1 pw (.lst ws')) := KeepS.refl.butL b2 gp1
    have g2w : upd G1 pw (.lst ws') pw = some (.lst ws') := upd_same
    have s2G : Same H1 (upd G1 pw (.lst ws')) := Same.mut' s1G b2 fpw
    have gE2 : upd G1 pw (.lst ws') E = some (.dT kvs) := b2.app npwE.symm gE1
    have gA2 : upd G1 pw (.lst ws') pA = some (.lst us) := b2.app npA gA1
    have gW2 : upd G1 pw (.lst ws') p3 = some (.lst (words9.map sX)) := b2.app npW g31
    generalize upd G1 pw (.lst ws') = G2 at b2 k2 g2w s2G gE2 gA2 gW2
    have iA2 := iA1.ks k2
    have iD2 := iD'.ks k2
    have em : m = missI (namesT t) sn * 5000 + wi'.length + 1 := by rw [em, List.length_append]; rfl
    refine ⟨p, _, rfl, sqT (k2.tup gp), rfl, ?_⟩
    refine ⟨_, _, rfl, ⟨_, _, rfl, ⟨rfl, ?_⟩⟩⟩
    dsimp only
    show tIfS _ _ _ _ [some (.ref a), some (.ref t.x), some (.ref pn), some (.ref d), some fh, some (.ref p3), some (.ref pA), some (.ref pw), some (sX it.2), some (.str (sO it.1)), some (.ref E), none, none] G2
    have hin : ∀ jt ∈ wi', Rch N S jt ∧ InU (namesT t) jt := fun jt m => hwi jt (by simp [m])
    tm_at "rds"
    intro p4 G4 f4 s4 g4
    tm_at "rds"
    refine ⟨E, _, rfl, DGet.t (k := itK it) (s4 _ _ gE2) (by rw [itK_kV]; exact g4), ?_⟩
    refine ⟨_, rfl, ?_⟩
    have s1G4 := s2G.trans s4
    by_cases hk' : it ∈ sn
    · refine iteF' (by rw [(hk.1 it).mpr hk']; rfl) ?_
      refine ⟨missI (namesT t) sn * 5000 + wi'.length, by omega, pw, ws', wi', sn, kvs, _, _, rfl, s1G4, fpw, npA1, s4 _ _ g2w, iD2.ks (Same.ks s4), s4 _ _ gE2, hk, rfl, by omega, hb, hnd, hsn, hin, fun jt mj => ?_, fun x mx b mb => ?_, s4 _ _ gA2, s4 _ _ gW2, iA2.ks (Same.ks s4)⟩
      · rcases hS0 jt mj with h | h
        · exact .inl h
        · rcases List.mem_append.mp h with h | h
          · exact .inr h
          · rw [List.mem_singleton.mp h]; exact .inl hk'
      · rcases hcl x mx b mb with h | h
        · exact .inl h
        · rcases List.mem_append.mp h with h | h
          · exact .inr h
          · rw [List.mem_singleton.mp h]; exact .inl hk'
    have hno := hk.not.mp hk'
    refine iteT' (by rw [hno]; rfl) ?_
    refine ⟨_, rfl, ?_⟩
    tm_at "rds"
    intro p5 G5 f5 s5' g5'
    have lk : kvs.length < sizeLine := by rw [sizeLine_eq, hk.2]; omega
    refine ⟨E, _, rfl, DPut.t (k := itK it) (s5' _ _ (s4 _ _ gE2)) (by rw [itK_kV]; exact g5') lk, ?_⟩
    have gE5 := s5' _ _ (s4 _ _ gE2)
    have bE : But E G5 (upd G5 E (.dT (putK kvs (itK it) (.bl true)))) := But.upd But.refl
    have kE : KeepS G5 (upd G5 E (.dT (putK kvs (itK it) (.bl true)))) := KeepS.refl.butT bE gE5
    have sE6 : Same H1 (upd G5 E (.dT (putK kvs (itK it) (.bl true)))) := Same.mut' (s1G4.trans s5') bE hE1
    have gE6 : upd G5 E (.dT (putK kvs (itK it) (.bl true))) E = some (.dT (putK kvs (itK it) (.bl true))) := upd_same
    generalize upd G5 E (.dT (putK kvs (itK it) (.bl true))) = G6 at bE kE gE6 sE6
    have s25 := s4.trans s5'
    have g6w := bE.app npwE (s25 _ _ g2w)
    have iD6 := (iD2.ks (Same.ks s25)).ks kE
    have nAE : pA ≠ E := by rintro rfl; rw [gE1] at gA1; cases gA1
    have gA6 := bE.app nAE (s25 _ _ gA2)
    have nWE : p3 ≠ E := by rintro rfl; rw [gE1] at g31; cases g31
    have gW6 := bE.app nWE (s25 _ _ gW2)
    have iA6 := (iA2.ks (Same.ks s25)).ks kE
    have hFi := (hF it.1 hit.2.1).ks (Same.ks sE6)
    tm_at "rzs"
    refine ⟨t, _, it.1, _, _, _, _, it.2, 25, fh, rfl, tt.box.ks (Same.ks sE6), dep, by omega, tt.tin.ks (Same.ks sE6), hFi, hit.2.2, by decide, hfh, fun p7 us7 G7 s7' f7' g7' i7' => ?_⟩
    have i7' : ItmsAt G7 us7 (N it) := by rw [hN]; exact i7'
    have l7 : us7.length ≤ 4000 := by rw [i7'.1]; exact nfew it hit.2.1
    have lws : ws'.length ≤ 400000 := by rw [lw']; omega
    refine ⟨pw, p7, _, _, rfl, rfl, s7' _ _ g6w, g7', by rw [sizeLine_eq]; omega, fun p8 G8 f8' s8' g8' => ?_⟩
    have s78 := s7'.trans s8'
    have ms := miss_add hit.2 hk'
    have hkp : H1 p8 = none := (sE6.trans s7').free f8'
    refine ⟨_, ?_, p8, _, wi' ++ N it, sn ++ [it], _, _, _, rfl, sE6.trans s78, hkp, ⟨(by rintro rfl; rw [s7' _ _ gA6] at f8'; cases f8'), (by rintro rfl; rw [s7' _ _ gW6] at f8'; cases f8')⟩, g8', (iD6.ks (Same.ks s78)).app (i7'.ks (Same.ks s8')), s78 _ _ gE6, hk.put _ hk', rfl, ?_, ?_, ?_, ?_, ?_, ?_, ?_, s78 _ _ gA6, s78 _ _ gW6, iA6.ks (Same.ks s78)⟩
    · rw [em, List.length_append]; have := nfew it hit.2.1; omega
    · rw [List.length_append]; have := nfew it hit.2.1; omega
    · rw [List.length_append]; show sn.length + 1 + _ ≤ _; omega
    · exact List.nodup_append.mpr ⟨hnd, List.nodup_cons.mpr ⟨by simp, List.nodup_nil⟩, fun x mx y my e => hk' (by rw [List.mem_singleton.mp my] at e; rw [← e]; exact mx)⟩
    · intro x mx
      rcases List.mem_append.mp mx with mx | mx
      · exact hsn x mx
      · rw [List.mem_singleton.mp mx]; exact hit
    · intro x mx
      rcases List.mem_append.mp mx with mx | mx
      · exact hin x mx
      · exact ⟨.step hit.1 mx, hNi it hit.2.1 x mx⟩
    · intro x mx
      rcases hS0 x mx with h | h
      · exact .inl (List.mem_append_left _ h)
      · rcases List.mem_append.mp h with h | h
        · exact .inr (List.mem_append_left _ h)
        · exact .inl (List.mem_append_right _ h)
    · intro x mx b mb
      rcases List.mem_append.mp mx with mx | mx
      · rcases hcl x mx b mb with h | h
        · exact .inl (List.mem_append_left _ h)
        · rcases List.mem_append.mp h with h | h
          · exact .inr (List.mem_append_left _ h)
          · exact .inl (List.mem_append_right _ h)
      · rw [List.mem_singleton.mp mx] at mb
        exact .inr (List.mem_append_right _ mb)
end
end My
namespace My
open PySem L2
theorem law_end {l : PySem.W.OpenLaw} {w : World} {K : PySem.W.Frag} {mg : Str → Option Value} {fa : Addr} (hfa : mg "law" = some (.ref fa)) (T : Tx w K mg) :
    ∃ fd : FuncData, (∀ (s : Shared) (v : Value), BindsTo s fd ⟨[v], []⟩ [("_law_script", v)]) ∧ ∀ base : Heap, K.In base → base.Ns mainGlobals mg → FnOk l.prog w K mg base CX0 26 fa fd ["_law_script"] (sp_law K) := by
  have e := hfa.symm.trans T.d_law.g
  cases e
  refine ⟨T.d_law.fd, fun s v => ?_, fun base _ _ => ok_law T⟩
  obtain ⟨oc, od, kV, doc, pm, an, cdv, ct, osl, e, _, _⟩ := T.d_law.F.ex
  rw [e]
  exact .of_eq rfl
end My
open PySem PySem.W PyProof.Rows
set_option maxRecDepth 100000 in
set_option maxHeartbeats 0 in
theorem PySem.Challenge.cw_nestlaid_k54_what_is_asked_holds : PySem.Challenge.rw_nestlaid_k54_what_is_asked.Holds := by
  refine MyHead.enter ?_
  k_fill
  refine L2.walk_of (l := PySem.Challenge.rw_nestlaid_k54_what_is_asked) (n := 63) (k := 26) (x := "_law_script") (CX := fun _ => L2.CX0) (sp := fun w => My.sp_law _) rfl (by decide) rfl ⟨rfl, by decide, by decide⟩ (fun w h Y => PySem.W.kIn_of Y) ?F (fun _ _ a ns hl _ hS => ⟨a, ns, rfl, hS, hl, fun _ => rfl⟩) (fun _ _ _ _ _ h => h)
  case F =>
    intro w mg fa h KX G hmg
    refine' My.law_end hmg { U_NO_RIMS := _, U_SIDES := _, U_STANDS := _, U_PACKS := _, U_WORDS := _, U_PLACED := _, U_NEEDS := _, U_LETTERS := _, U_LONGEST := _, c_Style := My.cl_mk KX G ?cStyle0 ?cStyle1 ?cStyle2 ?cStyle3 ?cStyle4, n_Style_wide := ?nStylewide, n_Style_high := ?nStylehigh, n_Style_least_wide := ?nStyleleast_wide, n_Style_least_high := ?nStyleleast_high, n_Style_most_wide := ?nStylemost_wide, n_Style_most_high := ?nStylemost_high, n_Style_grow := ?nStylegrow, n_Style_shrink := ?nStyleshrink, n_Style_rims := ?nStylerims, n_Style_stand := ?nStylestand, c_Box := My.cl_mk KX G ?cBox0 ?cBox1 ?cBox2 ?cBox3 ?cBox4, c_Words := My.cl_mk KX G ?cWords0 ?cWords1 ?cWords2 ?cWords3 ?cWords4, n_Words_name := ?nWordsname, n_Words_text := ?nWordstext, n_Words_style := ?nWordsstyle, c_Picture := My.cl_mk KX G ?cPicture0 ?cPicture1 ?cPicture2 ?cPicture3 ?cPicture4, n_Picture_name := ?nPicturename, n_Picture_across := ?nPictureacross, n_Picture_down := ?nPicturedown, n_Picture_style := ?nPicturestyle, c_Row := My.cl_mk KX G ?cRow0 ?cRow1 ?cRow2 ?cRow3 ?cRow4, n_Row_name := ?nRowname, n_Row_boxes := ?nRowboxes, n_Row_turn := ?nRowturn, n_Row_gap := ?nRowgap, n_Row_lane := ?nRowlane, n_Row_pack := ?nRowpack, n_Row_stands := ?nRowstands, n_Row_style := ?nRowstyle, c_Pile := My.cl_mk KX G ?cPile0 ?cPile1 ?cPile2 ?cPile3 ?cPile4, n_Pile_name := ?nPilename, n_Pile_boxes := ?nPileboxes, n_Pile_gap := ?nPilegap, n_Pile_pack := ?nPilepack, n_Pile_stands := ?nPilestands, n_Pile_style := ?nPilestyle, c_Grid := My.cl_mk KX G ?cGrid0 ?cGrid1 ?cGrid2 ?cGrid3 ?cGrid4, n_Grid_name := ?nGridname, n_Grid_boxes := ?nGridboxes, n_Grid_columns := ?nGridcolumns, n_Grid_rows := ?nGridrows, n_Grid_spots := ?nGridspots, n_Grid_gap := ?nGridgap, n_Grid_lane := ?nGridlane, n_Grid_stands := ?nGridstands, n_Grid_style := ?nGridstyle, c_Nest := My.cl_mk KX G ?cNest0 ?cNest1 ?cNest2 ?cNest3 ?cNest4, n_Nest_order := ?nNestorder, n_Nest_box_by := ?nNestbox_by, n_Nest_holder_by := ?nNestholder_by, d_is_whole := My.df_mk KX G ?a1 ?l1 ?c1 ?k1 (fun _ _ _ _ _ _ us hl => match us, hl with | [_], _ => rfl), d_is_count := My.df_mk KX G ?a2 ?l2 ?c2 ?k2 (fun _ _ _ _ _ _ us hl => match us, hl with | [_], _ => rfl), d_is_name := My.df_mk KX G ?a3 ?l3 ?c3 ?k3 (fun _ _ _ _ _ _ us hl => match us, hl with | [_], _ => rfl), d_is_share := My.df_mk KX G ?a4 ?l4 ?c4 ?k4 (fun _ _ _ _ _ _ us hl => match us, hl with | [_], _ => rfl), d_is_track := My.df_mk KX G ?a5 ?l5 ?c5 ?k5 (fun _ _ _ _ _ _ us hl => match us, hl with | [_], _ => rfl), d_are_tracks := My.df_mk KX G ?a6 ?l6 ?c6 ?k6 (fun _ _ _ _ _ _ us hl => match us, hl with | [_], _ => rfl), d_is_stretch := My.df_mk KX G ?a7 ?l7 ?c7 ?k7 (fun _ _ _ _ _ _ us hl => match us, hl with | [_, _, _], _ => rfl), d_is_spot := My.df_mk KX G ?a8 ?l8 ?c8 ?k8 (fun _ _ _ _ _ _ us hl => match us, hl with | [_, _, _], _ => rfl), d_apart := My.df_mk KX G ?a9 ?l9 ?c9 ?k9 (fun _ _ _ _ _ _ us hl => match us, hl with | [_, _], _ => rfl), d_may_stand := My.df_mk KX G ?a10 ?l10 ?c10 ?k10 (fun _ _ _ _ _ _ us hl => match us, hl with | [_, _, _, _], _ => rfl), d_are_spots := My.df_mk KX G ?a11 ?l11 ?c11 ?k11 (fun _ _ _ _ _ _ us hl => match us, hl with | [_, _, _, _], _ => rfl), d_is_part := My.df_mk KX G ?a12 ?l12 ?c12 ?k12 (fun _ _ _ _ _ _ us hl => match us, hl with | [_], _ => rfl), d_is_tie := My.df_mk KX G ?a13 ?l13 ?c13 ?k13 (fun _ _ _ _ _ _ us hl => match us, hl with | [_], _ => rfl), d_is_size := My.df_mk KX G ?a14 ?l14 ?c14 ?k14 (fun _ _ _ _ _ _ us hl => match us, hl with | [_], _ => rfl), d_is_bound := My.df_mk KX G ?a15 ?l15 ?c15 ?k15 (fun _ _ _ _ _ _ us hl => match us, hl with | [_], _ => rfl), d_is_rims := My.df_mk KX G ?a16 ?l16 ?c16 ?k16 (fun _ _ _ _ _ _ us hl => match us, hl with | [_], _ => rfl), d_Style_init := My.ini_mk ?iStyle_init0 ?iStyle_init1 ?iStyle_init2 ?iStyle_init3 ?iStyle_init4 ?iStyle_init5 ?iStyle_init6 (.cons ?wStyle_init0 ?xStyle_init0 (.cons ?wStyle_init1 ?xStyle_init1 (.cons ?wStyle_init2 ?xStyle_init2 (.cons ?wStyle_init3 ?xStyle_init3 (.cons ?wStyle_init4 ?xStyle_init4 (.cons ?wStyle_init5 ?xStyle_init5 (.cons ?wStyle_init6 ?xStyle_init6 (.cons ?wStyle_init7 ?xStyle_init7 (.cons ?wStyle_init8 ?xStyle_init8 (.cons ?wStyle_init9 ?xStyle_init9 .nil)))))))))), d_checked_name := My.df_mk KX G ?a17 ?l17 ?c17 ?k17 (fun _ _ _ _ _ _ us hl => match us, hl with | [_], _ => rfl), d_checked_style := My.df_mk KX G ?a18 ?l18 ?c18 ?k18 (fun _ _ _ _ _ _ us hl => match us, hl with | [_], _ => rfl), d_checked_boxes := My.df_mk KX G ?a19 ?l19 ?c19 ?k19 (fun _ _ _ _ _ _ us hl => match us, hl with | [_], _ => rfl), d_checked_gap := My.df_mk KX G ?a20 ?l20 ?c20 ?k20 (fun _ _ _ _ _ _ us hl => match us, hl with | [_], _ => rfl), d_checked_pack := My.df_mk KX G ?a21 ?l21 ?c21 ?k21 (fun _ _ _ _ _ _ us hl => match us, hl with | [_], _ => rfl), d_checked_stands := My.df_mk KX G ?a22 ?l22 ?c22 ?k22 (fun _ _ _ _ _ _ us hl => match us, hl with | [_], _ => rfl), d_Box_held_boxes := My.mt_mk ?mBox_held_boxes0 ?mBox_held_boxes1 ?mBox_held_boxes2 ?mBox_held_boxes3 ?mBox_held_boxes4 (fun _ _ _ _ _ _ us hl => match us, hl with | [_], _ => rfl), d_Words_init := My.ini_mk ?iWords_init0 ?iWords_init1 ?iWords_init2 ?iWords_init3 ?iWords_init4 ?iWords_init5 ?iWords_init6 (.cons ?wWords_init0 ?xWords_init0 .nil), d_Picture_init := My.ini_mk ?iPicture_init0 ?iPicture_init1 ?iPicture_init2 ?iPicture_init3 ?iPicture_init4 ?iPicture_init5 ?iPicture_init6 (.cons ?wPicture_init0 ?xPicture_init0 .nil), d_Row_init := My.ini_mk ?iRow_init0 ?iRow_init1 ?iRow_init2 ?iRow_init3 ?iRow_init4 ?iRow_init5 ?iRow_init6 (.cons ?wRow_init0 ?xRow_init0 (.cons ?wRow_init1 ?xRow_init1 (.cons ?wRow_init2 ?xRow_init2 (.cons ?wRow_init3 ?xRow_init3 (.cons ?wRow_init4 ?xRow_init4 (.cons ?wRow_init5 ?xRow_init5 .nil)))))), d_Row_held_boxes := My.mt_mk ?mRow_held_boxes0 ?mRow_held_boxes1 ?mRow_held_boxes2 ?mRow_held_boxes3 ?mRow_held_boxes4 (fun _ _ _ _ _ _ us hl => match us, hl with | [_], _ => rfl), d_Pile_init := My.ini_mk ?iPile_init0 ?iPile_init1 ?iPile_init2 ?iPile_init3 ?iPile_init4 ?iPile_init5 ?iPile_init6 (.cons ?wPile_init0 ?xPile_init0 (.cons ?wPile_init1 ?xPile_init1 (.cons ?wPile_init2 ?xPile_init2 (.cons ?wPile_init3 ?xPile_init3 .nil)))), d_Pile_held_boxes := My.mt_mk ?mPile_held_boxes0 ?mPile_held_boxes1 ?mPile_held_boxes2 ?mPile_held_boxes3 ?mPile_held_boxes4 (fun _ _ _ _ _ _ us hl => match us, hl with | [_], _ => rfl), d_Grid_init := My.ini_mk ?iGrid_init0 ?iGrid_init1 ?iGrid_init2 ?iGrid_init3 ?iGrid_init4 ?iGrid_init5 ?iGrid_init6 (.cons ?wGrid_init0 ?xGrid_init0 (.cons ?wGrid_init1 ?xGrid_init1 (.cons ?wGrid_init2 ?xGrid_init2 (.cons ?wGrid_init3 ?xGrid_init3 .nil)))), d_Grid_held_boxes := My.mt_mk ?mGrid_held_boxes0 ?mGrid_held_boxes1 ?mGrid_held_boxes2 ?mGrid_held_boxes3 ?mGrid_held_boxes4 (fun _ _ _ _ _ _ us hl => match us, hl with | [_], _ => rfl), d_stand_of := My.df_mk KX G ?a23 ?l23 ?c23 ?k23 (fun _ _ _ _ _ _ us hl => match us, hl with | [_, _], _ => rfl), d_tied := My.df_mk KX G ?a24 ?l24 ?c24 ?k24 (fun _ _ _ _ _ _ us hl => match us, hl with | [_], _ => rfl), d_all_of := My.df_mk KX G ?a25 ?l25 ?c25 ?k25 (fun _ _ _ _ _ _ us hl => match us, hl with | [_, _], _ => rfl), d_holder_box := My.df_mk KX G ?a26 ?l26 ?c26 ?k26 (fun _ _ _ _ _ _ us hl => match us, hl with | [_, _], _ => rfl), d_wish_needs := My.df_mk KX G ?a27 ?l27 ?c27 ?k27 (fun _ _ _ _ _ _ us hl => match us, hl with | [_, _, _], _ => rfl), d_least_needs := My.df_mk KX G ?a28 ?l28 ?c28 ?k28 (fun _ _ _ _ _ _ us hl => match us, hl with | [_, _, _], _ => rfl), d_wide_needs := My.df_mk KX G ?a29 ?l29 ?c29 ?k29 (fun _ _ _ _ _ _ us hl => match us, hl with | [_, _, _], _ => rfl), d_left_needs := My.df_mk KX G ?a30 ?l30 ?c30 ?k30 (fun _ _ _ _ _ _ us hl => match us, hl with | [_, _, _], _ => rfl), d_based := My.df_mk KX G ?a31 ?l31 ?c31 ?k31 (fun _ _ _ _ _ _ us hl => match us, hl with | [_], _ => rfl), d_line_needs := My.df_mk KX G ?a32 ?l32 ?c32 ?k32 (fun _ _ _ _ _ _ us hl => match us, hl with | [_], _ => rfl), d_flow_needs := My.df_mk KX G ?a33 ?l33 ?c33 ?k33 (fun _ _ _ _ _ _ us hl => match us, hl with | [_, _, _], _ => rfl), d_rise_needs := My.df_mk KX G ?a34 ?l34 ?c34 ?k34 (fun _ _ _ _ _ _ us hl => match us, hl with | [_, _, _], _ => rfl), d_stretches := My.df_mk KX G ?a35 ?l35 ?c35 ?k35 (fun _ _ _ _ _ _ us hl => match us, hl with | [_, _], _ => rfl), d_tall_needs := My.df_mk KX G ?a36 ?l36 ?c36 ?k36 (fun _ _ _ _ _ _ us hl => match us, hl with | [_, _, _], _ => rfl), d_base_needs := My.df_mk KX G ?a37 ?l37 ?c37 ?k37 (fun _ _ _ _ _ _ us hl => match us, hl with | [_, _, _], _ => rfl), d_top_needs := My.df_mk KX G ?a38 ?l38 ?c38 ?k38 (fun _ _ _ _ _ _ us hl => match us, hl with | [_, _, _], _ => rfl), d_add_boxes := My.df_mk KX G ?a39 ?l39 ?c39 ?k39 (fun _ _ _ _ _ _ us hl => match us, hl with | [_, _, _], _ => rfl), d_told_sizes := My.df_mk KX G ?a40 ?l40 ?c40 ?k40 (fun _ _ _ _ _ _ us hl => match us, hl with | [_], _ => rfl), d_Nest_init := My.ini0_mk ?iNest_init0 ?iNest_init1 ?iNest_init2 ?iNest_init3 ?iNest_init4 ?iNest_init5 ?iNest_init6 (fun _ _ _ _ _ _ us hl => match us, hl with | [_, _], _ => rfl), d_Nest_named := My.mt_mk ?mNest_named0 ?mNest_named1 ?mNest_named2 ?mNest_named3 ?mNest_named4 (fun _ _ _ _ _ _ us hl => match us, hl with | [_, _], _ => rfl), d_framed := My.df_mk KX G ?a41 ?l41 ?c41 ?k41 (fun _ _ _ _ _ _ us hl => match us, hl with | [_, _], _ => rfl), d_looked_word := My.df_mk KX G ?a42 ?l42 ?c42 ?k42 (fun _ _ _ _ _ _ us hl => match us, hl with | [_], _ => rfl), d_needs_in := My.df_mk KX G ?a43 ?l43 ?c43 ?k43 (fun _ _ _ _ _ _ us hl => match us, hl with | [_, _, _, _], _ => rfl), d_needs := My.dfKs_mk KX G 3 ?a44 ?l44 ?c44 ?k44 (.cons ?wneeds0 ?xneeds0 (.cons ?wneeds1 ?xneeds1 .nil)) (by intro z; cases z) rfl (fun D doc pm an cdv ct us ks h1 h2 => match us, ks, h1, h2 with | [_, _, _], [_, _], _, _ => ⟨_, _, _, _, _, _, rfl, rfl, ⟨_, _, _, _, _, _, rfl, rfl, rfl⟩⟩), d_asked := My.dfKs_mk KX G 1 ?a45 ?l45 ?c45 ?k45 (.cons ?wasked0 ?xasked0 (.cons ?wasked1 ?xasked1 .nil)) (by intro z; cases z) rfl (fun D doc pm an cdv ct us ks h1 h2 => match us, ks, h1, h2 with | [_], [_, _], _, _ => ⟨_, _, _, _, _, _, rfl, rfl, ⟨_, _, _, _, _, _, rfl, rfl, rfl⟩⟩), d_w_cell_at := My.df_mk KX G ?a46 ?l46 ?c46 ?k46 (fun _ _ _ _ _ _ us hl => match us, hl with | [_, _], _ => rfl), d_w_mixed := My.df_mk KX G ?a47 ?l47 ?c47 ?k47 (fun _ _ _ _ _ _ us hl => match us, hl with | [_, _], _ => rfl), d_w_next := My.df_mk KX G ?a48 ?l48 ?c48 ?k48 (fun _ _ _ _ _ _ us hl => match us, hl with | [_, _], _ => rfl), d_w_names := My.df_mk KX G ?a49 ?l49 ?c49 ?k49 (fun _ _ _ _ _ _ us hl => match us, hl with | [_, _], _ => rfl), d_w_source := My.df_mk KX G ?a50 ?l50 ?c50 ?k50 (fun _ _ _ _ _ _ us hl => match us, hl with | [_, _], _ => rfl), d_w_told := My.df_mk KX G ?a51 ?l51 ?c51 ?k51 (fun _ _ _ _ _ _ us hl => match us, hl with | [_, _, _, _], _ => rfl), d_w_looks := My.df_mk KX G ?a52 ?l52 ?c52 ?k52 (fun _ _ _ _ _ _ us hl => match us, hl with | [_, _, _, _], _ => rfl), d_w_style := My.df_mk KX G ?a53 ?l53 ?c53 ?k53 (fun _ _ _ _ _ _ us hl => match us, hl with | [_], _ => rfl), d_w_box := My.df_mk KX G ?a54 ?l54 ?c54 ?k54 (fun _ _ _ _ _ _ us hl => match us, hl with | [_, _, _, _], _ => rfl), d_w_tree := My.df_mk KX G ?a55 ?l55 ?c55 ?k55 (fun _ _ _ _ _ _ us hl => match us, hl with | [_, _, _], _ => rfl), d_w_order := My.df_mk KX G ?a56 ?l56 ?c56 ?k56 (fun _ _ _ _ _ _ us hl => match us, hl with | [_, _], _ => rfl), d_law := My.df_mk KX G ?a57 ?l57 ?c57 ?k57 (fun _ _ _ _ _ _ us hl => match us, hl with | [_], _ => rfl), b_all := PySem.W.mg_none_of KX G ?z_all, b_any := PySem.W.mg_none_of KX G ?z_any, b_bool := PySem.W.mg_none_of KX G ?z_bool, b_enumerate := PySem.W.mg_none_of KX G ?z_enumerate, b_int := PySem.W.mg_none_of KX G ?z_int, b_isinstance := PySem.W.mg_none_of KX G ?z_isinstance, b_len := PySem.W.mg_none_of KX G ?z_len, b_list := PySem.W.mg_none_of KX G ?z_list, b_max := PySem.W.mg_none_of KX G ?z_max, b_range := PySem.W.mg_none_of KX G ?z_range, b_str := PySem.W.mg_none_of KX G ?z_str, b_tuple := PySem.W.mg_none_of KX G ?z_tuple, v_SIDES := PySem.W.mg_of KX G ?v_SIDES, v_STANDS := PySem.W.mg_of KX G ?v_STANDS, v_PACKS := PySem.W.mg_of KX G ?v_PACKS, v_WORDS := PySem.W.mg_of KX G ?v_WORDS, v_PLACED := PySem.W.mg_of KX G ?v_PLACED, v_NEEDS := PySem.W.mg_of KX G ?v_NEEDS, v_LETTERS := PySem.W.mg_of KX G ?v_LETTERS, v_LONGEST := PySem.W.mg_of KX G ?v_LONGEST, t_NO_RIMS := My.sqT_K ?tNO_RIMS0 ?tNO_RIMS1 ?tNO_RIMS2 ?tNO_RIMS3 ?tNO_RIMS4, t_SIDES := My.sqT_K ?tSIDES0 ?tSIDES1 ?tSIDES2 ?tSIDES3 ?tSIDES4, t_STANDS := My.sqT_K ?tSTANDS0 ?tSTANDS1 ?tSTANDS2 ?tSTANDS3 ?tSTANDS4, t_PACKS := My.sqT_K ?tPACKS0 ?tPACKS1 ?tPACKS2 ?tPACKS3 ?tPACKS4, t_PLACED := My.sqT_K ?tPLACED0 ?tPLACED1 ?tPLACED2 ?tPLACED3 ?tPLACED4, t_WORDS := My.sqT_K ?tWORDS0 ?tWORDS1 ?tWORDS2 ?tWORDS3 ?tWORDS4, r_LETTERS := ?r_LETTERS, r_LONGEST := ?r_LONGEST, wg := ?wg, wt := ?wt, wc_Words := ?wc_Words, wm_Words := ?wm_Words, wc_Picture := ?wc_Picture, wm_Picture := ?wm_Picture, wc_Row := ?wc_Row, wm_Row := ?wm_Row, wc_Pile := ?wc_Pile, wm_Pile := ?wm_Pile, wc_Grid := ?wc_Grid, wm_Grid := ?wm_Grid, wc_Style := ?wc_Style, wm_Style := ?wm_Style, kb_Words := My.kit_own ?kb_Words0 ?kb_Words1 ?kb_Words2 ?kb_Words3, ki_Words_Words := My.kit_own ?ki_Words_Words0 ?ki_Words_Words1 ?ki_Words_Words2 ?ki_Words_Words3, ki_Words_Picture := My.kit_own ?ki_Words_Picture0 ?ki_Words_Picture1 ?ki_Words_Picture2 ?ki_Words_Picture3, ki_Words_Row := My.kit_own ?ki_Words_Row0 ?ki_Words_Row1 ?ki_Words_Row2 ?ki_Words_Row3, ki_Words_Pile := My.kit_own ?ki_Words_Pile0 ?ki_Words_Pile1 ?ki_Words_Pile2 ?ki_Words_Pile3, ki_Words_Grid := My.kit_own ?ki_Words_Grid0 ?ki_Words_Grid1 ?ki_Words_Grid2 ?ki_Words_Grid3, kb_Picture := My.kit_own ?kb_Picture0 ?kb_Picture1 ?kb_Picture2 ?kb_Picture3, ki_Picture_Words := My.kit_own ?ki_Picture_Words0 ?ki_Picture_Words1 ?ki_Picture_Words2 ?ki_Picture_Words3, ki_Picture_Picture := My.kit_own ?ki_Picture_Picture0 ?ki_Picture_Picture1 ?ki_Picture_Picture2 ?ki_Picture_Picture3, ki_Picture_Row := My.kit_own ?ki_Picture_Row0 ?ki_Picture_Row1 ?ki_Picture_Row2 ?ki_Picture_Row3, ki_Picture_Pile := My.kit_own ?ki_Picture_Pile0 ?ki_Picture_Pile1 ?ki_Picture_Pile2 ?ki_Picture_Pile3, ki_Picture_Grid := My.kit_own ?ki_Picture_Grid0 ?ki_Picture_Grid1 ?ki_Picture_Grid2 ?ki_Picture_Grid3, kb_Row := My.kit_own ?kb_Row0 ?kb_Row1 ?kb_Row2 ?kb_Row3, ki_Row_Words := My.kit_own ?ki_Row_Words0 ?ki_Row_Words1 ?ki_Row_Words2 ?ki_Row_Words3, ki_Row_Picture := My.kit_own ?ki_Row_Picture0 ?ki_Row_Picture1 ?ki_Row_Picture2 ?ki_Row_Picture3, ki_Row_Row := My.kit_own ?ki_Row_Row0 ?ki_Row_Row1 ?ki_Row_Row2 ?ki_Row_Row3, ki_Row_Pile := My.kit_own ?ki_Row_Pile0 ?ki_Row_Pile1 ?ki_Row_Pile2 ?ki_Row_Pile3, ki_Row_Grid := My.kit_own ?ki_Row_Grid0 ?ki_Row_Grid1 ?ki_Row_Grid2 ?ki_Row_Grid3, kb_Pile := My.kit_own ?kb_Pile0 ?kb_Pile1 ?kb_Pile2 ?kb_Pile3, ki_Pile_Words := My.kit_own ?ki_Pile_Words0 ?ki_Pile_Words1 ?ki_Pile_Words2 ?ki_Pile_Words3, ki_Pile_Picture := My.kit_own ?ki_Pile_Picture0 ?ki_Pile_Picture1 ?ki_Pile_Picture2 ?ki_Pile_Picture3, ki_Pile_Row := My.kit_own ?ki_Pile_Row0 ?ki_Pile_Row1 ?ki_Pile_Row2 ?ki_Pile_Row3, ki_Pile_Pile := My.kit_own ?ki_Pile_Pile0 ?ki_Pile_Pile1 ?ki_Pile_Pile2 ?ki_Pile_Pile3, ki_Pile_Grid := My.kit_own ?ki_Pile_Grid0 ?ki_Pile_Grid1 ?ki_Pile_Grid2 ?ki_Pile_Grid3, kb_Grid := My.kit_own ?kb_Grid0 ?kb_Grid1 ?kb_Grid2 ?kb_Grid3, ki_Grid_Words := My.kit_own ?ki_Grid_Words0 ?ki_Grid_Words1 ?ki_Grid_Words2 ?ki_Grid_Words3, ki_Grid_Picture := My.kit_own ?ki_Grid_Picture0 ?ki_Grid_Picture1 ?ki_Grid_Picture2 ?ki_Grid_Picture3, ki_Grid_Row := My.kit_own ?ki_Grid_Row0 ?ki_Grid_Row1 ?ki_Grid_Row2 ?ki_Grid_Row3, ki_Grid_Pile := My.kit_own ?ki_Grid_Pile0 ?ki_Grid_Pile1 ?ki_Grid_Pile2 ?ki_Grid_Pile3, ki_Grid_Grid := My.kit_own ?ki_Grid_Grid0 ?ki_Grid_Grid1 ?ki_Grid_Grid2 ?ki_Grid_Grid3, ki_Style := My.kit_own ?ki_Style0 ?ki_Style1 ?ki_Style2 ?ki_Style3, mh_Words := ?mh_Words, mh_Picture := ?mh_Picture, kn_least := My.kdct_mk ?knleast0 ?knleast1 ?knleast2, kn_wish := My.kdct_mk ?knwish0 ?knwish1 ?knwish2, kn_wide := My.kdct_mk ?knwide0 ?knwide1 ?knwide2, kn_flow := My.kdct_mk ?knflow0 ?knflow1 ?knflow2, kn_rise := My.kdct_mk ?knrise0 ?knrise1 ?knrise2, kn_tall := My.kdct_mk ?kntall0 ?kntall1 ?kntall2, kn_base := My.kdct_mk ?knbase0 ?knbase1 ?knbase2, kn_left := My.kdct_mk ?knleft0 ?knleft1 ?knleft2, kn_top := My.kdct_mk ?kntop0 ?kntop1 ?kntop2 }
    (case cStyle0 => k_is)
    (case cStyle1 => k_is)
    (case cStyle2 => k_is)
    (case cStyle3 => k_is)
    (case cStyle4 => k_is)
    (case nStylewide => dsimp only [My.cl_mk]; k_is)
    (case nStylehigh => dsimp only [My.cl_mk]; k_is)
    (case nStyleleast_wide => dsimp only [My.cl_mk]; k_is)
    (case nStyleleast_high => dsimp only [My.cl_mk]; k_is)
    (case nStylemost_wide => dsimp only [My.cl_mk]; k_is)
    (case nStylemost_high => dsimp only [My.cl_mk]; k_is)
    (case nStylegrow => dsimp only [My.cl_mk]; k_is)
    (case nStyleshrink => dsimp only [My.cl_mk]; k_is)
    (case nStylerims => dsimp only [My.cl_mk]; k_is)
    (case nStylestand => dsimp only [My.cl_mk]; k_is)
    (case cBox0 => k_is)
    (case cBox1 => k_is)
    (case cBox2 => k_is)
    (case cBox3 => k_is)
    (case cBox4 => k_is)
    (case cWords0 => k_is)
    (case cWords1 => k_is)
    (case cWords2 => k_is)
    (case cWords3 => k_is)
    (case cWords4 => k_is)
    (case nWordsname => dsimp only [My.cl_mk]; k_is)
    (case nWordstext => dsimp only [My.cl_mk]; k_is)
    (case nWordsstyle => dsimp only [My.cl_mk]; k_is)
    (case cPicture0 => k_is)
    (case cPicture1 => k_is)
    (case cPicture2 => k_is)
    (case cPicture3 => k_is)
    (case cPicture4 => k_is)
    (case nPicturename => dsimp only [My.cl_mk]; k_is)
    (case nPictureacross => dsimp only [My.cl_mk]; k_is)
    (case nPicturedown => dsimp only [My.cl_mk]; k_is)
    (case nPicturestyle => dsimp only [My.cl_mk]; k_is)
    (case cRow0 => k_is)
    (case cRow1 => k_is)
    (case cRow2 => k_is)
    (case cRow3 => k_is)
    (case cRow4 => k_is)
    (case nRowname => dsimp only [My.cl_mk]; k_is)
    (case nRowboxes => dsimp only [My.cl_mk]; k_is)
    (case nRowturn => dsimp only [My.cl_mk]; k_is)
    (case nRowgap => dsimp only [My.cl_mk]; k_is)
    (case nRowlane => dsimp only [My.cl_mk]; k_is)
    (case nRowpack => dsimp only [My.cl_mk]; k_is)
    (case nRowstands => dsimp only [My.cl_mk]; k_is)
    (case nRowstyle => dsimp only [My.cl_mk]; k_is)
    (case cPile0 => k_is)
    (case cPile1 => k_is)
    (case cPile2 => k_is)
    (case cPile3 => k_is)
    (case cPile4 => k_is)
    (case nPilename => dsimp only [My.cl_mk]; k_is)
    (case nPileboxes => dsimp only [My.cl_mk]; k_is)
    (case nPilegap => dsimp only [My.cl_mk]; k_is)
    (case nPilepack => dsimp only [My.cl_mk]; k_is)
    (case nPilestands => dsimp only [My.cl_mk]; k_is)
    (case nPilestyle => dsimp only [My.cl_mk]; k_is)
    (case cGrid0 => k_is)
    (case cGrid1 => k_is)
    (case cGrid2 => k_is)
    (case cGrid3 => k_is)
    (case cGrid4 => k_is)
    (case nGridname => dsimp only [My.cl_mk]; k_is)
    (case nGridboxes => dsimp only [My.cl_mk]; k_is)
    (case nGridcolumns => dsimp only [My.cl_mk]; k_is)
    (case nGridrows => dsimp only [My.cl_mk]; k_is)
    (case nGridspots => dsimp only [My.cl_mk]; k_is)
    (case nGridgap => dsimp only [My.cl_mk]; k_is)
    (case nGridlane => dsimp only [My.cl_mk]; k_is)
    (case nGridstands => dsimp only [My.cl_mk]; k_is)
    (case nGridstyle => dsimp only [My.cl_mk]; k_is)
    (case cNest0 => k_is)
    (case cNest1 => k_is)
    (case cNest2 => k_is)
    (case cNest3 => k_is)
    (case cNest4 => k_is)
    (case nNestorder => dsimp only [My.cl_mk]; k_is)
    (case nNestbox_by => dsimp only [My.cl_mk]; k_is)
    (case nNestholder_by => dsimp only [My.cl_mk]; k_is)
    (case a1 => k_is)
    (case l1 => k_is)
    (case c1 => k_is)
    (case k1 => k_is)
    (case a2 => k_is)
    (case l2 => k_is)
    (case c2 => k_is)
    (case k2 => k_is)
    (case a3 => k_is)
    (case l3 => k_is)
    (case c3 => k_is)
    (case k3 => k_is)
    (case a4 => k_is)
    (case l4 => k_is)
    (case c4 => k_is)
    (case k4 => k_is)
    (case a5 => k_is)
    (case l5 => k_is)
    (case c5 => k_is)
    (case k5 => k_is)
    (case a6 => k_is)
    (case l6 => k_is)
    (case c6 => k_is)
    (case k6 => k_is)
    (case a7 => k_is)
    (case l7 => k_is)
    (case c7 => k_is)
    (case k7 => k_is)
    (case a8 => k_is)
    (case l8 => k_is)
    (case c8 => k_is)
    (case k8 => k_is)
    (case a9 => k_is)
    (case l9 => k_is)
    (case c9 => k_is)
    (case k9 => k_is)
    (case a10 => k_is)
    (case l10 => k_is)
    (case c10 => k_is)
    (case k10 => k_is)
    (case a11 => k_is)
    (case l11 => k_is)
    (case c11 => k_is)
    (case k11 => k_is)
    (case a12 => k_is)
    (case l12 => k_is)
    (case c12 => k_is)
    (case k12 => k_is)
    (case a13 => k_is)
    (case l13 => k_is)
    (case c13 => k_is)
    (case k13 => k_is)
    (case a14 => k_is)
    (case l14 => k_is)
    (case c14 => k_is)
    (case k14 => k_is)
    (case a15 => k_is)
    (case l15 => k_is)
    (case c15 => k_is)
    (case k15 => k_is)
    (case a16 => k_is)
    (case l16 => k_is)
    (case c16 => k_is)
    (case k16 => k_is)
    (case iStyle_init0 => dsimp only [My.cl_mk]; k_is)
    (case iStyle_init1 => (try dsimp only [My.cl_mk]); k_is)
    (case iStyle_init2 => (try dsimp only [My.cl_mk]); k_is)
    (case iStyle_init3 => (try dsimp only [My.cl_mk]); k_is)
    (case iStyle_init4 => (try dsimp only [My.cl_mk]); k_is)
    (case iStyle_init5 => (try dsimp only [My.cl_mk]); k_is)
    (case iStyle_init6 => (try dsimp only [My.cl_mk]); k_is)
    (case wStyle_init0 => k_is)
    (case xStyle_init0 => first | exact rfl | exact ⟨_, rfl⟩)
    (case wStyle_init1 => k_is)
    (case xStyle_init1 => first | exact rfl | exact ⟨_, rfl⟩)
    (case wStyle_init2 => k_is)
    (case xStyle_init2 => first | exact rfl | exact ⟨_, rfl⟩)
    (case wStyle_init3 => k_is)
    (case xStyle_init3 => first | exact rfl | exact ⟨_, rfl⟩)
    (case wStyle_init4 => k_is)
    (case xStyle_init4 => first | exact rfl | exact ⟨_, rfl⟩)
    (case wStyle_init5 => k_is)
    (case xStyle_init5 => first | exact rfl | exact ⟨_, rfl⟩)
    (case wStyle_init6 => k_is)
    (case xStyle_init6 => first | exact rfl | exact ⟨_, rfl⟩)
    (case wStyle_init7 => k_is)
    (case xStyle_init7 => first | exact rfl | exact ⟨_, rfl⟩)
    (case wStyle_init8 => k_is)
    (case xStyle_init8 => first | exact rfl | exact ⟨_, rfl⟩)
    (case wStyle_init9 => k_is)
    (case xStyle_init9 => first | exact rfl | exact ⟨_, rfl⟩)
    (case a17 => k_is)
    (case l17 => k_is)
    (case c17 => k_is)
    (case k17 => k_is)
    (case a18 => k_is)
    (case l18 => k_is)
    (case c18 => k_is)
    (case k18 => k_is)
    (case a19 => k_is)
    (case l19 => k_is)
    (case c19 => k_is)
    (case k19 => k_is)
    (case a20 => k_is)
    (case l20 => k_is)
    (case c20 => k_is)
    (case k20 => k_is)
    (case a21 => k_is)
    (case l21 => k_is)
    (case c21 => k_is)
    (case k21 => k_is)
    (case a22 => k_is)
    (case l22 => k_is)
    (case c22 => k_is)
    (case k22 => k_is)
    (case mBox_held_boxes0 => dsimp only [My.cl_mk]; k_is)
    (case mBox_held_boxes1 => (try dsimp only [My.cl_mk]); k_is)
    (case mBox_held_boxes2 => (try dsimp only [My.cl_mk]); k_is)
    (case mBox_held_boxes3 => (try dsimp only [My.cl_mk]); k_is)
    (case mBox_held_boxes4 => (try dsimp only [My.cl_mk]); k_is)
    (case iWords_init0 => dsimp only [My.cl_mk]; k_is)
    (case iWords_init1 => (try dsimp only [My.cl_mk]); k_is)
    (case iWords_init2 => (try dsimp only [My.cl_mk]); k_is)
    (case iWords_init3 => (try dsimp only [My.cl_mk]); k_is)
    (case iWords_init4 => (try dsimp only [My.cl_mk]); k_is)
    (case iWords_init5 => (try dsimp only [My.cl_mk]); k_is)
    (case iWords_init6 => (try dsimp only [My.cl_mk]); k_is)
    (case wWords_init0 => k_is)
    (case xWords_init0 => first | exact rfl | exact ⟨_, rfl⟩)
    (case iPicture_init0 => dsimp only [My.cl_mk]; k_is)
    (case iPicture_init1 => (try dsimp only [My.cl_mk]); k_is)
    (case iPicture_init2 => (try dsimp only [My.cl_mk]); k_is)
    (case iPicture_init3 => (try dsimp only [My.cl_mk]); k_is)
    (case iPicture_init4 => (try dsimp only [My.cl_mk]); k_is)
    (case iPicture_init5 => (try dsimp only [My.cl_mk]); k_is)
    (case iPicture_init6 => (try dsimp only [My.cl_mk]); k_is)
    (case wPicture_init0 => k_is)
    (case xPicture_init0 => first | exact rfl | exact ⟨_, rfl⟩)
    (case iRow_init0 => dsimp only [My.cl_mk]; k_is)
    (case iRow_init1 => (try dsimp only [My.cl_mk]); k_is)
    (case iRow_init2 => (try dsimp only [My.cl_mk]); k_is)
    (case iRow_init3 => (try dsimp only [My.cl_mk]); k_is)
    (case iRow_init4 => (try dsimp only [My.cl_mk]); k_is)
    (case iRow_init5 => (try dsimp only [My.cl_mk]); k_is)
    (case iRow_init6 => (try dsimp only [My.cl_mk]); k_is)
    (case wRow_init0 => k_is)
    (case xRow_init0 => first | exact rfl | exact ⟨_, rfl⟩)
    (case wRow_init1 => k_is)
    (case xRow_init1 => first | exact rfl | exact ⟨_, rfl⟩)
    (case wRow_init2 => k_is)
    (case xRow_init2 => first | exact rfl | exact ⟨_, rfl⟩)
    (case wRow_init3 => k_is)
    (case xRow_init3 => first | exact rfl | exact ⟨_, rfl⟩)
    (case wRow_init4 => k_is)
    (case xRow_init4 => first | exact rfl | exact ⟨_, rfl⟩)
    (case wRow_init5 => k_is)
    (case xRow_init5 => first | exact rfl | exact ⟨_, rfl⟩)
    (case mRow_held_boxes0 => dsimp only [My.cl_mk]; k_is)
    (case mRow_held_boxes1 => (try dsimp only [My.cl_mk]); k_is)
    (case mRow_held_boxes2 => (try dsimp only [My.cl_mk]); k_is)
    (case mRow_held_boxes3 => (try dsimp only [My.cl_mk]); k_is)
    (case mRow_held_boxes4 => (try dsimp only [My.cl_mk]); k_is)
    (case iPile_init0 => dsimp only [My.cl_mk]; k_is)
    (case iPile_init1 => (try dsimp only [My.cl_mk]); k_is)
    (case iPile_init2 => (try dsimp only [My.cl_mk]); k_is)
    (case iPile_init3 => (try dsimp only [My.cl_mk]); k_is)
    (case iPile_init4 => (try dsimp only [My.cl_mk]); k_is)
    (case iPile_init5 => (try dsimp only [My.cl_mk]); k_is)
    (case iPile_init6 => (try dsimp only [My.cl_mk]); k_is)
    (case wPile_init0 => k_is)
    (case xPile_init0 => first | exact rfl | exact ⟨_, rfl⟩)
    (case wPile_init1 => k_is)
    (case xPile_init1 => first | exact rfl | exact ⟨_, rfl⟩)
    (case wPile_init2 => k_is)
    (case xPile_init2 => first | exact rfl | exact ⟨_, rfl⟩)
    (case wPile_init3 => k_is)
    (case xPile_init3 => first | exact rfl | exact ⟨_, rfl⟩)
    (case mPile_held_boxes0 => dsimp only [My.cl_mk]; k_is)
    (case mPile_held_boxes1 => (try dsimp only [My.cl_mk]); k_is)
    (case mPile_held_boxes2 => (try dsimp only [My.cl_mk]); k_is)
    (case mPile_held_boxes3 => (try dsimp only [My.cl_mk]); k_is)
    (case mPile_held_boxes4 => (try dsimp only [My.cl_mk]); k_is)
    (case iGrid_init0 => dsimp only [My.cl_mk]; k_is)
    (case iGrid_init1 => (try dsimp only [My.cl_mk]); k_is)
    (case iGrid_init2 => (try dsimp only [My.cl_mk]); k_is)
    (case iGrid_init3 => (try dsimp only [My.cl_mk]); k_is)
    (case iGrid_init4 => (try dsimp only [My.cl_mk]); k_is)
    (case iGrid_init5 => (try dsimp only [My.cl_mk]); k_is)
    (case iGrid_init6 => (try dsimp only [My.cl_mk]); k_is)
    (case wGrid_init0 => k_is)
    (case xGrid_init0 => first | exact rfl | exact ⟨_, rfl⟩)
    (case wGrid_init1 => k_is)
    (case xGrid_init1 => first | exact rfl | exact ⟨_, rfl⟩)
    (case wGrid_init2 => k_is)
    (case xGrid_init2 => first | exact rfl | exact ⟨_, rfl⟩)
    (case wGrid_init3 => k_is)
    (case xGrid_init3 => first | exact rfl | exact ⟨_, rfl⟩)
    (case mGrid_held_boxes0 => dsimp only [My.cl_mk]; k_is)
    (case mGrid_held_boxes1 => (try dsimp only [My.cl_mk]); k_is)
    (case mGrid_held_boxes2 => (try dsimp only [My.cl_mk]); k_is)
    (case mGrid_held_boxes3 => (try dsimp only [My.cl_mk]); k_is)
    (case mGrid_held_boxes4 => (try dsimp only [My.cl_mk]); k_is)
    (case a23 => k_is)
    (case l23 => k_is)
    (case c23 => k_is)
    (case k23 => k_is)
    (case a24 => k_is)
    (case l24 => k_is)
    (case c24 => k_is)
    (case k24 => k_is)
    (case a25 => k_is)
    (case l25 => k_is)
    (case c25 => k_is)
    (case k25 => k_is)
    (case a26 => k_is)
    (case l26 => k_is)
    (case c26 => k_is)
    (case k26 => k_is)
    (case a27 => k_is)
    (case l27 => k_is)
    (case c27 => k_is)
    (case k27 => k_is)
    (case a28 => k_is)
    (case l28 => k_is)
    (case c28 => k_is)
    (case k28 => k_is)
    (case a29 => k_is)
    (case l29 => k_is)
    (case c29 => k_is)
    (case k29 => k_is)
    (case a30 => k_is)
    (case l30 => k_is)
    (case c30 => k_is)
    (case k30 => k_is)
    (case a31 => k_is)
    (case l31 => k_is)
    (case c31 => k_is)
    (case k31 => k_is)
    (case a32 => k_is)
    (case l32 => k_is)
    (case c32 => k_is)
    (case k32 => k_is)
    (case a33 => k_is)
    (case l33 => k_is)
    (case c33 => k_is)
    (case k33 => k_is)
    (case a34 => k_is)
    (case l34 => k_is)
    (case c34 => k_is)
    (case k34 => k_is)
    (case a35 => k_is)
    (case l35 => k_is)
    (case c35 => k_is)
    (case k35 => k_is)
    (case a36 => k_is)
    (case l36 => k_is)
    (case c36 => k_is)
    (case k36 => k_is)
    (case a37 => k_is)
    (case l37 => k_is)
    (case c37 => k_is)
    (case k37 => k_is)
    (case a38 => k_is)
    (case l38 => k_is)
    (case c38 => k_is)
    (case k38 => k_is)
    (case a39 => k_is)
    (case l39 => k_is)
    (case c39 => k_is)
    (case k39 => k_is)
    (case a40 => k_is)
    (case l40 => k_is)
    (case c40 => k_is)
    (case k40 => k_is)
    (case iNest_init0 => dsimp only [My.cl_mk]; k_is)
    (case iNest_init1 => (try dsimp only [My.cl_mk]); k_is)
    (case iNest_init2 => (try dsimp only [My.cl_mk]); k_is)
    (case iNest_init3 => (try dsimp only [My.cl_mk]); k_is)
    (case iNest_init4 => (try dsimp only [My.cl_mk]); k_is)
    (case iNest_init5 => (try dsimp only [My.cl_mk]); k_is)
    (case iNest_init6 => (try dsimp only [My.cl_mk]); k_is)
    (case mNest_named0 => dsimp only [My.cl_mk]; k_is)
    (case mNest_named1 => (try dsimp only [My.cl_mk]); k_is)
    (case mNest_named2 => (try dsimp only [My.cl_mk]); k_is)
    (case mNest_named3 => (try dsimp only [My.cl_mk]); k_is)
    (case mNest_named4 => (try dsimp only [My.cl_mk]); k_is)
    (case a41 => k_is)
    (case l41 => k_is)
    (case c41 => k_is)
    (case k41 => k_is)
    (case a42 => k_is)
    (case l42 => k_is)
    (case c42 => k_is)
    (case k42 => k_is)
    (case a43 => k_is)
    (case l43 => k_is)
    (case c43 => k_is)
    (case k43 => k_is)
    (case a44 => k_is)
    (case l44 => k_is)
    (case c44 => k_is)
    (case k44 => k_is)
    (case wneeds0 => k_is)
    (case xneeds0 => first | exact rfl | exact ⟨_, rfl⟩)
    (case wneeds1 => k_is)
    (case xneeds1 => first | exact rfl | exact ⟨_, rfl⟩)
    (case a45 => k_is)
    (case l45 => k_is)
    (case c45 => k_is)
    (case k45 => k_is)
    (case wasked0 => k_is)
    (case xasked0 => first | exact rfl | exact ⟨_, rfl⟩)
    (case wasked1 => k_is)
    (case xasked1 => first | exact rfl | exact ⟨_, rfl⟩)
    (case a46 => k_is)
    (case l46 => k_is)
    (case c46 => k_is)
    (case k46 => k_is)
    (case a47 => k_is)
    (case l47 => k_is)
    (case c47 => k_is)
    (case k47 => k_is)
    (case a48 => k_is)
    (case l48 => k_is)
    (case c48 => k_is)
    (case k48 => k_is)
    (case a49 => k_is)
    (case l49 => k_is)
    (case c49 => k_is)
    (case k49 => k_is)
    (case a50 => k_is)
    (case l50 => k_is)
    (case c50 => k_is)
    (case k50 => k_is)
    (case a51 => k_is)
    (case l51 => k_is)
    (case c51 => k_is)
    (case k51 => k_is)
    (case a52 => k_is)
    (case l52 => k_is)
    (case c52 => k_is)
    (case k52 => k_is)
    (case a53 => k_is)
    (case l53 => k_is)
    (case c53 => k_is)
    (case k53 => k_is)
    (case a54 => k_is)
    (case l54 => k_is)
    (case c54 => k_is)
    (case k54 => k_is)
    (case a55 => k_is)
    (case l55 => k_is)
    (case c55 => k_is)
    (case k55 => k_is)
    (case a56 => k_is)
    (case l56 => k_is)
    (case c56 => k_is)
    (case k56 => k_is)
    (case a57 => k_is)
    (case l57 => k_is)
    (case c57 => k_is)
    (case k57 => k_is)
    (case z_all => k_is)
    (case z_any => k_is)
    (case z_bool => k_is)
    (case z_enumerate => k_is)
    (case z_int => k_is)
    (case z_isinstance => k_is)
    (case z_len => k_is)
    (case z_list => k_is)
    (case z_max => k_is)
    (case z_range => k_is)
    (case z_str => k_is)
    (case z_tuple => k_is)
    (case v_SIDES => k_is)
    (case v_STANDS => k_is)
    (case v_PACKS => k_is)
    (case v_WORDS => k_is)
    (case v_PLACED => k_is)
    (case v_NEEDS => k_is)
    (case v_LETTERS => k_is)
    (case v_LONGEST => k_is)
    (case tNO_RIMS0 => k_is)
    (case tNO_RIMS1 => rfl)
    (case tNO_RIMS2 => rfl)
    (case tNO_RIMS3 => decide +kernel)
    (case tNO_RIMS4 => exact .cons ⟨_, rfl⟩ (.cons ⟨_, rfl⟩ (.cons ⟨_, rfl⟩ (.cons ⟨_, rfl⟩ (.nil)))))
    (case tSIDES0 => k_is)
    (case tSIDES1 => rfl)
    (case tSIDES2 => rfl)
    (case tSIDES3 => decide +kernel)
    (case tSIDES4 => exact .cons ⟨_, rfl⟩ (.cons ⟨_, rfl⟩ (.nil)))
    (case tSTANDS0 => k_is)
    (case tSTANDS1 => rfl)
    (case tSTANDS2 => rfl)
    (case tSTANDS3 => decide +kernel)
    (case tSTANDS4 => exact .cons ⟨_, rfl⟩ (.cons ⟨_, rfl⟩ (.cons ⟨_, rfl⟩ (.cons ⟨_, rfl⟩ (.cons ⟨_, rfl⟩ (.nil))))))
    (case tPACKS0 => k_is)
    (case tPACKS1 => rfl)
    (case tPACKS2 => rfl)
    (case tPACKS3 => decide +kernel)
    (case tPACKS4 => exact .cons ⟨_, rfl⟩ (.cons ⟨_, rfl⟩ (.cons ⟨_, rfl⟩ (.cons ⟨_, rfl⟩ (.nil)))))
    (case tPLACED0 => k_is)
    (case tPLACED1 => rfl)
    (case tPLACED2 => rfl)
    (case tPLACED3 => decide +kernel)
    (case tPLACED4 => exact .cons ⟨_, rfl⟩ (.cons ⟨_, rfl⟩ (.cons ⟨_, rfl⟩ (.cons ⟨_, rfl⟩ (.nil)))))
    (case tWORDS0 => k_is)
    (case tWORDS1 => rfl)
    (case tWORDS2 => rfl)
    (case tWORDS3 => decide +kernel)
    (case tWORDS4 => exact .cons ⟨_, rfl⟩ (.cons ⟨_, rfl⟩ (.cons ⟨_, rfl⟩ (.cons ⟨_, rfl⟩ (.cons ⟨_, rfl⟩ (.cons ⟨_, rfl⟩ (.cons ⟨_, rfl⟩ (.cons ⟨_, rfl⟩ (.cons ⟨_, rfl⟩ (.nil))))))))))
    (case r_LETTERS => exact ⟨_, rfl⟩)
    (case r_LONGEST => exact ⟨_, rfl⟩)
    (case wg => (try dsimp only [My.ex_mk, My.ec_mk, My.cl_mk, My.mt_mk]); k_is)
    (case wt => (try dsimp only [My.ex_mk, My.ec_mk, My.cl_mk, My.mt_mk]); k_is)
    (case wc_Words => (try dsimp only [My.ex_mk, My.ec_mk, My.cl_mk, My.mt_mk]); k_is)
    (case wm_Words => (try dsimp only [My.ex_mk, My.ec_mk, My.cl_mk, My.mt_mk]); k_is)
    (case wc_Picture => (try dsimp only [My.ex_mk, My.ec_mk, My.cl_mk, My.mt_mk]); k_is)
    (case wm_Picture => (try dsimp only [My.ex_mk, My.ec_mk, My.cl_mk, My.mt_mk]); k_is)
    (case wc_Row => (try dsimp only [My.ex_mk, My.ec_mk, My.cl_mk, My.mt_mk]); k_is)
    (case wm_Row => (try dsimp only [My.ex_mk, My.ec_mk, My.cl_mk, My.mt_mk]); k_is)
    (case wc_Pile => (try dsimp only [My.ex_mk, My.ec_mk, My.cl_mk, My.mt_mk]); k_is)
    (case wm_Pile => (try dsimp only [My.ex_mk, My.ec_mk, My.cl_mk, My.mt_mk]); k_is)
    (case wc_Grid => (try dsimp only [My.ex_mk, My.ec_mk, My.cl_mk, My.mt_mk]); k_is)
    (case wm_Grid => (try dsimp only [My.ex_mk, My.ec_mk, My.cl_mk, My.mt_mk]); k_is)
    (case wc_Style => (try dsimp only [My.ex_mk, My.ec_mk, My.cl_mk, My.mt_mk]); k_is)
    (case wm_Style => (try dsimp only [My.ex_mk, My.ec_mk, My.cl_mk, My.mt_mk]); k_is)
    (case kb_Words0 => (try dsimp only [My.cl_mk]); k_is)
    (case kb_Words1 => (try dsimp only [My.cl_mk]); k_is)
    (case kb_Words2 => (try dsimp only [My.cl_mk]); k_is)
    (case kb_Words3 => (try dsimp only [My.cl_mk]); k_is)
    (case ki_Words_Words0 => (try dsimp only [My.cl_mk]); k_is)
    (case ki_Words_Words1 => (try dsimp only [My.cl_mk]); k_is)
    (case ki_Words_Words2 => (try dsimp only [My.cl_mk]); k_is)
    (case ki_Words_Words3 => (try dsimp only [My.cl_mk]); k_is)
    (case ki_Words_Picture0 => (try dsimp only [My.cl_mk]); k_is)
    (case ki_Words_Picture1 => (try dsimp only [My.cl_mk]); k_is)
    (case ki_Words_Picture2 => (try dsimp only [My.cl_mk]); k_is)
    (case ki_Words_Picture3 => (try dsimp only [My.cl_mk]); k_is)
    (case ki_Words_Row0 => (try dsimp only [My.cl_mk]); k_is)
    (case ki_Words_Row1 => (try dsimp only [My.cl_mk]); k_is)
    (case ki_Words_Row2 => (try dsimp only [My.cl_mk]); k_is)
    (case ki_Words_Row3 => (try dsimp only [My.cl_mk]); k_is)
    (case ki_Words_Pile0 => (try dsimp only [My.cl_mk]); k_is)
    (case ki_Words_Pile1 => (try dsimp only [My.cl_mk]); k_is)
    (case ki_Words_Pile2 => (try dsimp only [My.cl_mk]); k_is)
    (case ki_Words_Pile3 => (try dsimp only [My.cl_mk]); k_is)
    (case ki_Words_Grid0 => (try dsimp only [My.cl_mk]); k_is)
    (case ki_Words_Grid1 => (try dsimp only [My.cl_mk]); k_is)
    (case ki_Words_Grid2 => (try dsimp only [My.cl_mk]); k_is)
    (case ki_Words_Grid3 => (try dsimp only [My.cl_mk]); k_is)
    (case kb_Picture0 => (try dsimp only [My.cl_mk]); k_is)
    (case kb_Picture1 => (try dsimp only [My.cl_mk]); k_is)
    (case kb_Picture2 => (try dsimp only [My.cl_mk]); k_is)
    (case kb_Picture3 => (try dsimp only [My.cl_mk]); k_is)
    (case ki_Picture_Words0 => (try dsimp only [My.cl_mk]); k_is)
    (case ki_Picture_Words1 => (try dsimp only [My.cl_mk]); k_is)
    (case ki_Picture_Words2 => (try dsimp only [My.cl_mk]); k_is)
    (case ki_Picture_Words3 => (try dsimp only [My.cl_mk]); k_is)
    (case ki_Picture_Picture0 => (try dsimp only [My.cl_mk]); k_is)
    (case ki_Picture_Picture1 => (try dsimp only [My.cl_mk]); k_is)
    (case ki_Picture_Picture2 => (try dsimp only [My.cl_mk]); k_is)
    (case ki_Picture_Picture3 => (try dsimp only [My.cl_mk]); k_is)
    (case ki_Picture_Row0 => (try dsimp only [My.cl_mk]); k_is)
    (case ki_Picture_Row1 => (try dsimp only [My.cl_mk]); k_is)
    (case ki_Picture_Row2 => (try dsimp only [My.cl_mk]); k_is)
    (case ki_Picture_Row3 => (try dsimp only [My.cl_mk]); k_is)
    (case ki_Picture_Pile0 => (try dsimp only [My.cl_mk]); k_is)
    (case ki_Picture_Pile1 => (try dsimp only [My.cl_mk]); k_is)
    (case ki_Picture_Pile2 => (try dsimp only [My.cl_mk]); k_is)
    (case ki_Picture_Pile3 => (try dsimp only [My.cl_mk]); k_is)
    (case ki_Picture_Grid0 => (try dsimp only [My.cl_mk]); k_is)
    (case ki_Picture_Grid1 => (try dsimp only [My.cl_mk]); k_is)
    (case ki_Picture_Grid2 => (try dsimp only [My.cl_mk]); k_is)
    (case ki_Picture_Grid3 => (try dsimp only [My.cl_mk]); k_is)
    (case kb_Row0 => (try dsimp only [My.cl_mk]); k_is)
    (case kb_Row1 => (try dsimp only [My.cl_mk]); k_is)
    (case kb_Row2 => (try dsimp only [My.cl_mk]); k_is)
    (case kb_Row3 => (try dsimp only [My.cl_mk]); k_is)
    (case ki_Row_Words0 => (try dsimp only [My.cl_mk]); k_is)
    (case ki_Row_Words1 => (try dsimp only [My.cl_mk]); k_is)
    (case ki_Row_Words2 => (try dsimp only [My.cl_mk]); k_is)
    (case ki_Row_Words3 => (try dsimp only [My.cl_mk]); k_is)
    (case ki_Row_Picture0 => (try dsimp only [My.cl_mk]); k_is)
    (case ki_Row_Picture1 => (try dsimp only [My.cl_mk]); k_is)
    (case ki_Row_Picture2 => (try dsimp only [My.cl_mk]); k_is)
    (case ki_Row_Picture3 => (try dsimp only [My.cl_mk]); k_is)
    (case ki_Row_Row0 => (try dsimp only [My.cl_mk]); k_is)
    (case ki_Row_Row1 => (try dsimp only [My.cl_mk]); k_is)
    (case ki_Row_Row2 => (try dsimp only [My.cl_mk]); k_is)
    (case ki_Row_Row3 => (try dsimp only [My.cl_mk]); k_is)
    (case ki_Row_Pile0 => (try dsimp only [My.cl_mk]); k_is)
    (case ki_Row_Pile1 => (try dsimp only [My.cl_mk]); k_is)
    (case ki_Row_Pile2 => (try dsimp only [My.cl_mk]); k_is)
    (case ki_Row_Pile3 => (try dsimp only [My.cl_mk]); k_is)
    (case ki_Row_Grid0 => (try dsimp only [My.cl_mk]); k_is)
    (case ki_Row_Grid1 => (try dsimp only [My.cl_mk]); k_is)
    (case ki_Row_Grid2 => (try dsimp only [My.cl_mk]); k_is)
    (case ki_Row_Grid3 => (try dsimp only [My.cl_mk]); k_is)
    (case kb_Pile0 => (try dsimp only [My.cl_mk]); k_is)
    (case kb_Pile1 => (try dsimp only [My.cl_mk]); k_is)
    (case kb_Pile2 => (try dsimp only [My.cl_mk]); k_is)
    (case kb_Pile3 => (try dsimp only [My.cl_mk]); k_is)
    (case ki_Pile_Words0 => (try dsimp only [My.cl_mk]); k_is)
    (case ki_Pile_Words1 => (try dsimp only [My.cl_mk]); k_is)
    (case ki_Pile_Words2 => (try dsimp only [My.cl_mk]); k_is)
    (case ki_Pile_Words3 => (try dsimp only [My.cl_mk]); k_is)
    (case ki_Pile_Picture0 => (try dsimp only [My.cl_mk]); k_is)
    (case ki_Pile_Picture1 => (try dsimp only [My.cl_mk]); k_is)
    (case ki_Pile_Picture2 => (try dsimp only [My.cl_mk]); k_is)
    (case ki_Pile_Picture3 => (try dsimp only [My.cl_mk]); k_is)
    (case ki_Pile_Row0 => (try dsimp only [My.cl_mk]); k_is)
    (case ki_Pile_Row1 => (try dsimp only [My.cl_mk]); k_is)
    (case ki_Pile_Row2 => (try dsimp only [My.cl_mk]); k_is)
    (case ki_Pile_Row3 => (try dsimp only [My.cl_mk]); k_is)
    (case ki_Pile_Pile0 => (try dsimp only [My.cl_mk]); k_is)
    (case ki_Pile_Pile1 => (try dsimp only [My.cl_mk]); k_is)
    (case ki_Pile_Pile2 => (try dsimp only [My.cl_mk]); k_is)
    (case ki_Pile_Pile3 => (try dsimp only [My.cl_mk]); k_is)
    (case ki_Pile_Grid0 => (try dsimp only [My.cl_mk]); k_is)
    (case ki_Pile_Grid1 => (try dsimp only [My.cl_mk]); k_is)
    (case ki_Pile_Grid2 => (try dsimp only [My.cl_mk]); k_is)
    (case ki_Pile_Grid3 => (try dsimp only [My.cl_mk]); k_is)
    (case kb_Grid0 => (try dsimp only [My.cl_mk]); k_is)
    (case kb_Grid1 => (try dsimp only [My.cl_mk]); k_is)
    (case kb_Grid2 => (try dsimp only [My.cl_mk]); k_is)
    (case kb_Grid3 => (try dsimp only [My.cl_mk]); k_is)
    (case ki_Grid_Words0 => (try dsimp only [My.cl_mk]); k_is)
    (case ki_Grid_Words1 => (try dsimp only [My.cl_mk]); k_is)
    (case ki_Grid_Words2 => (try dsimp only [My.cl_mk]); k_is)
    (case ki_Grid_Words3 => (try dsimp only [My.cl_mk]); k_is)
    (case ki_Grid_Picture0 => (try dsimp only [My.cl_mk]); k_is)
    (case ki_Grid_Picture1 => (try dsimp only [My.cl_mk]); k_is)
    (case ki_Grid_Picture2 => (try dsimp only [My.cl_mk]); k_is)
    (case ki_Grid_Picture3 => (try dsimp only [My.cl_mk]); k_is)
    (case ki_Grid_Row0 => (try dsimp only [My.cl_mk]); k_is)
    (case ki_Grid_Row1 => (try dsimp only [My.cl_mk]); k_is)
    (case ki_Grid_Row2 => (try dsimp only [My.cl_mk]); k_is)
    (case ki_Grid_Row3 => (try dsimp only [My.cl_mk]); k_is)
    (case ki_Grid_Pile0 => (try dsimp only [My.cl_mk]); k_is)
    (case ki_Grid_Pile1 => (try dsimp only [My.cl_mk]); k_is)
    (case ki_Grid_Pile2 => (try dsimp only [My.cl_mk]); k_is)
    (case ki_Grid_Pile3 => (try dsimp only [My.cl_mk]); k_is)
    (case ki_Grid_Grid0 => (try dsimp only [My.cl_mk]); k_is)
    (case ki_Grid_Grid1 => (try dsimp only [My.cl_mk]); k_is)
    (case ki_Grid_Grid2 => (try dsimp only [My.cl_mk]); k_is)
    (case ki_Grid_Grid3 => (try dsimp only [My.cl_mk]); k_is)
    (case ki_Style0 => (try dsimp only [My.cl_mk]); k_is)
    (case ki_Style1 => (try dsimp only [My.cl_mk]); k_is)
    (case ki_Style2 => (try dsimp only [My.cl_mk]); k_is)
    (case ki_Style3 => (try dsimp only [My.cl_mk]); k_is)
    (case mh_Words => (try dsimp only [My.ex_mk, My.ec_mk, My.cl_mk, My.mt_mk]); k_is)
    (case mh_Picture => (try dsimp only [My.ex_mk, My.ec_mk, My.cl_mk, My.mt_mk]); k_is)
    (case knleast0 => k_is)
    (case knleast1 => exact ⟨⟨_, _, rfl, rfl⟩, ⟨_, _, rfl, rfl⟩, ⟨_, _, rfl, rfl⟩, ⟨_, _, rfl, rfl⟩, ⟨_, _, rfl, rfl⟩, ⟨_, _, rfl, rfl⟩, ⟨_, _, rfl, rfl⟩, ⟨_, _, rfl, rfl⟩, ⟨_, _, rfl, rfl⟩, True.intro⟩)
    (case knleast2 => k_is)
    (case knwish0 => k_is)
    (case knwish1 => exact ⟨⟨_, _, rfl, rfl⟩, ⟨_, _, rfl, rfl⟩, ⟨_, _, rfl, rfl⟩, ⟨_, _, rfl, rfl⟩, ⟨_, _, rfl, rfl⟩, ⟨_, _, rfl, rfl⟩, ⟨_, _, rfl, rfl⟩, ⟨_, _, rfl, rfl⟩, ⟨_, _, rfl, rfl⟩, True.intro⟩)
    (case knwish2 => k_is)
    (case knwide0 => k_is)
    (case knwide1 => exact ⟨⟨_, _, rfl, rfl⟩, ⟨_, _, rfl, rfl⟩, ⟨_, _, rfl, rfl⟩, ⟨_, _, rfl, rfl⟩, ⟨_, _, rfl, rfl⟩, ⟨_, _, rfl, rfl⟩, ⟨_, _, rfl, rfl⟩, ⟨_, _, rfl, rfl⟩, ⟨_, _, rfl, rfl⟩, True.intro⟩)
    (case knwide2 => k_is)
    (case knflow0 => k_is)
    (case knflow1 => exact ⟨⟨_, _, rfl, rfl⟩, ⟨_, _, rfl, rfl⟩, ⟨_, _, rfl, rfl⟩, ⟨_, _, rfl, rfl⟩, ⟨_, _, rfl, rfl⟩, ⟨_, _, rfl, rfl⟩, ⟨_, _, rfl, rfl⟩, ⟨_, _, rfl, rfl⟩, ⟨_, _, rfl, rfl⟩, True.intro⟩)
    (case knflow2 => k_is)
    (case knrise0 => k_is)
    (case knrise1 => exact ⟨⟨_, _, rfl, rfl⟩, ⟨_, _, rfl, rfl⟩, ⟨_, _, rfl, rfl⟩, ⟨_, _, rfl, rfl⟩, ⟨_, _, rfl, rfl⟩, ⟨_, _, rfl, rfl⟩, ⟨_, _, rfl, rfl⟩, ⟨_, _, rfl, rfl⟩, ⟨_, _, rfl, rfl⟩, True.intro⟩)
    (case knrise2 => k_is)
    (case kntall0 => k_is)
    (case kntall1 => exact ⟨⟨_, _, rfl, rfl⟩, ⟨_, _, rfl, rfl⟩, ⟨_, _, rfl, rfl⟩, ⟨_, _, rfl, rfl⟩, ⟨_, _, rfl, rfl⟩, ⟨_, _, rfl, rfl⟩, ⟨_, _, rfl, rfl⟩, ⟨_, _, rfl, rfl⟩, ⟨_, _, rfl, rfl⟩, True.intro⟩)
    (case kntall2 => k_is)
    (case knbase0 => k_is)
    (case knbase1 => exact ⟨⟨_, _, rfl, rfl⟩, ⟨_, _, rfl, rfl⟩, ⟨_, _, rfl, rfl⟩, ⟨_, _, rfl, rfl⟩, ⟨_, _, rfl, rfl⟩, ⟨_, _, rfl, rfl⟩, ⟨_, _, rfl, rfl⟩, ⟨_, _, rfl, rfl⟩, ⟨_, _, rfl, rfl⟩, True.intro⟩)
    (case knbase2 => k_is)
    (case knleft0 => k_is)
    (case knleft1 => exact ⟨⟨_, _, rfl, rfl⟩, ⟨_, _, rfl, rfl⟩, ⟨_, _, rfl, rfl⟩, ⟨_, _, rfl, rfl⟩, ⟨_, _, rfl, rfl⟩, ⟨_, _, rfl, rfl⟩, ⟨_, _, rfl, rfl⟩, ⟨_, _, rfl, rfl⟩, ⟨_, _, rfl, rfl⟩, True.intro⟩)
    (case knleft2 => k_is)
    (case kntop0 => k_is)
    (case kntop1 => exact ⟨⟨_, _, rfl, rfl⟩, ⟨_, _, rfl, rfl⟩, ⟨_, _, rfl, rfl⟩, ⟨_, _, rfl, rfl⟩, ⟨_, _, rfl, rfl⟩, ⟨_, _, rfl, rfl⟩, ⟨_, _, rfl, rfl⟩, ⟨_, _, rfl, rfl⟩, ⟨_, _, rfl, rfl⟩, True.intro⟩)
    (case kntop2 => k_is)
#print axioms PySem.Challenge.cw_nestlaid_k54_what_is_asked_holds
