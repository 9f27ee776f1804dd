import PyProof.Rows.All
import Wide.All
import OpenK.AllK
import Wide.FinOn
import HandS.ForMost
import HandS.ForExc
import HandS.Wide
import HandS.IsInst
import HandS.Defaults
import HandS.MakeKwOnly
import HandS.Flow
import HandS.EndBits
import HandS.Style
import HandS.Conv
import HandS.Deep
import HandS.Codes
import PyProof.StrOps2
import HandS.ReplaceLit
import HandS.Iter
import HandS.SortKw
import KE.DataMinMax
import HandS.More
import HandS.DeepEq
import PyProof.NeKinds
import HandS.ExcIs
import HandS.ExcOwn
import HandS.WordsExc
import HandS.Zip
import HandS.TupAny
import HandS.NoneIn
import HandS.HotCalls
import HandS.ExcCtx
import PyProof.Seq
import HandS.OwnEq
import HandS.CallLocal
import HandS.Nested
import HandS.Comp
import HandS.ExcInit
import KE.KExcIs
import HandS.ExcField
import HandS.Text
import PyProof.FactsAll.subtypes_4
import PyProof.FactsAll.dict_2
import KE.HD2
import KE.KLam
import HandS.EndTab
import PySem.Challenge.RW_nestlaid_k10_what_cannot_be_wrapped
set_option Elab.async false
set_option linter.all false
set_option maxRecDepth 100000
set_option maxHeartbeats 0
namespace MyHead
open PySem PySem.W PySem.Calls PyProof.Rows
abbrev R : OpenRow := OpenLaw.row PySem.Challenge.rw_nestlaid_k10_what_cannot_be_wrapped
abbrev qv : Program := view R.prog [34]
def names : List PySem.Str := ([PySem.Str.ofString "__name__", PySem.Str.ofString "NestError", PySem.Str.ofString "NoNumber", PySem.Str.ofString "NoText", PySem.Str.ofString "NoName", PySem.Str.ofString "NoStyle", PySem.Str.ofString "NoTree", PySem.Str.ofString "NoWords", PySem.Str.ofString "NoWord", PySem.Str.ofString "NoRow", PySem.Str.ofString "is_whole", PySem.Str.ofString "is_from_nought", PySem.Str.ofString "words_in", PySem.Str.ofString "check_text", PySem.Str.ofString "longest_in", PySem.Str.ofString "wished_in", PySem.Str.ofString "lines_of", PySem.Str.ofString "wrapped_in", PySem.Str.ofString "longest", PySem.Str.ofString "wished", PySem.Str.ofString "wrapped", PySem.Str.ofString "_law_cell_at", PySem.Str.ofString "_law_mixed", PySem.Str.ofString "_law_source", PySem.Str.ofString "_law_next", PySem.Str.ofString "_law_word", PySem.Str.ofString "_law_text", PySem.Str.ofString "_law_refused", PySem.Str.ofString "_law_no_width", PySem.Str.ofString "_law_no_text"] : List PySem.Str) ++ ([PySem.Str.ofString "_law_by_names"] : List PySem.Str)
def tsK : List Addr := [268]
def obK (K : Params → Frag) (as : List Addr) (e : ∀ P, as = (K P).map (·.1)) (s : SharedT) : (kmHook K as e tsK).α := (as.map (HeadRun.getT s), tsK.map (HeadRun.getT s))
theorem obK_ok {K : Params → Frag} {as : List Addr} {e : ∀ P, as = (K P).map (·.1)} (s : SharedT) : obK K as e s = (kmHook K as e tsK).obs s.abs := by
  show (as.map (HeadRun.getT s), tsK.map (HeadRun.getT s)) = (as.map s.abs.heap.get?, tsK.map s.abs.heap.get?)
  rw [show HeadRun.getT s = s.abs.heap.get? from funext (HeadRun.getT_eq s)]
section
set_option hygiene false in
local macro_rules
  | `(tactic| o_head $H) => `(tactic| exact h $H _)
theorem mkK (h : ∀ (H : Hook) (r : OpenRow), r.Holds) : PySem.Challenge.rw_nestlaid_k10_what_cannot_be_wrapped.Holds := by
  w_on
  o_law
  k_head
end
/-- some answers of a world, to read the fragment's addresses by -/
def someP : Params := { strHash := fun _ => 0, shareClass := fun _ => 0, mergeTok := fun t => t, idOf := fun _ => 0, idOfShared := fun _ _ => 0, followText := fun _ => false, idOfImm := fun _ => 0 }
noncomputable def asK : List Addr := (mkK.heap_39 someP).map (·.1)
theorem asK_ok (P : Params) : asK = (mkK.heap_39 P).map (·.1) := by kernel_rfl
noncomputable abbrev hk : Hook := kmHook mkK.heap_39 asK asK_ok tsK
theorem run0 (w : World) : HeadRun.RunEq R qv hk (obK mkK.heap_39 asK asK_ok) 12000 names (w.withFollow "special-get-raises" false) := by
  intro os
  kernel_rfl
theorem run1 (w : World) : HeadRun.RunEq R qv hk (obK mkK.heap_39 asK asK_ok) 12000 names (w.withFollow "special-get-raises" true) := by
  intro os
  kernel_rfl
theorem enter (call : WalkO qv names (XL qv []) hk.says R.toRowW (HeadRun.topDef R.prog 34) [] (fun f vs => PySem.call f vs)) : PySem.Challenge.rw_nestlaid_k10_what_cannot_be_wrapped.Holds := by
  w_on; o_law
  refine HeadRun.head_any (r := R) (q := qv) (H := hk) (M := 12000) (loose := names) (d := HeadRun.topDef R.prog 34) (kwd := []) obK_ok (by kernel_rfl) (fun s => by kernel_rfl) (fun w => byRow2 "special-get-raises" (P := fun w => HeadRun.RunEq R qv hk (obK mkK.heap_39 asK asK_ok) 12000 names w) run0 run1 w) (by kernel_rfl) (by kernel_rfl) (by kernel_rfl) (by rfl) (by first | assumption | decide +kernel) (by decide +kernel) ⟨rfl, rfl, rfl, rfl, rfl, by decide +kernel⟩ ?hw call
  case hw => w_witness2
end MyHead
set_option Elab.async false
set_option linter.all false
set_option maxRecDepth 100000
set_option maxHeartbeats 4000000
namespace My
open PySem PySem.Spec PyProof.Rows L2
/-! ### a def of the top, with its facts -/
structure Df (K : PySem.W.Frag) (mg : Str → Option Value) (x : Str) (st : Stmt) (ps : List Str) where
  f : Addr
  fd : FuncData
  F : Fun K x x st f fd
  b : Binds K fd ps []
  g : mg x = some (.ref f)
def df_mk {K : PySem.W.Frag} {mg : Str → Option Value} {x : Str} {st : Stmt} {ps : List Str} {h : Heap} (X : K.In h) (G : h.Ns mainGlobals mg) {f : Addr} {oc : Value} {od an : Option Addr} {osl : Array (Option Value)} {kV doc pm cdv ct : Value}
    (a : PySem.W.nsIn K mainGlobals x = some (some (.ref f))) (l : K.lookup f = some ⟨oc, od, .func (PySem.W.fnOf x x (defArgs st) (defBody st) (defScope st) .none kV doc pm an cdv ct), osl⟩)
    (c : PySem.W.codeIn K cdv x = true) (k : PySem.W.keepIn K (.ref f) = true)
    (hb : ∀ (kV doc pm : Value) (an : Option Addr) (cdv ct : Value) (us : List Value), us.length = ps.length → bindArgs (PySem.W.fnOf x x (defArgs st) (defBody st) (defScope st) .none kV doc pm an cdv ct) ⟨us, []⟩ = pure (ps.zip us)) : Df K mg x st ps :=
  ⟨f, _, fun_mk l c k, (fun_mk l c k).binds hb, PySem.W.mg_of X G a⟩
/-! ### calls by keywords alone -/
theorem vals_getD : ∀ {zs : List V} {ws : List Value}, Vals zs ws → ∀ i : Nat, RelV (zs.getD i .non) (ws.getD i .none)
  | _, _, .nil, i => rfl
  | _, _, .cons r t, 0 => r
  | _, _, .cons r t, i + 1 => by simpa using vals_getD t i
section
variable {X : Cx} {CX : CXT} {k n : Nat} {f C : Addr} {fd : FuncData} {ps ks : List Str} {sp : Sp} {E : XK} {x : Str} {p pos : Pos} {kws : List Keyword} {t tk : TA} {g : List Value → List Value → List Value} {gV : List V → List V → List V}
/-- f(k = v, ..) -/
theorem pe_callN0 (F : FnOk X.prog X.w X.K X.mg X.base CX k f fd ps sp) (hr : Room k X.A) (hg : Gl X x) (hm : X.mg x = some (.ref f)) (hk : PySem.W.keepIn X.K (.ref f) = true) (hb : KBn X.K fd ps 0 ks g gV) (hx : Passes CX X E) (hkw : PK X kws tk)
    (hall : (backToKw pos (keywordEach kws X.env)).all (·.1.isSome) = true := by rfl) (hks : (backToKw pos (keywordEach kws X.env)).filterMap (·.1) = ks := by rfl) (hdb : (x == ("__debug__" : Str)) = false := by decide)
    (hpl : ((backTo pos (starEach [] X.env)).any (·.1) || (backToKw pos (keywordEach kws X.env)).any (·.1.isNone)) = false := by rfl) :
    PE X (.Call (.Name x p) [] kws pos) (tCallN 0 ks.length sp gV E tNil tk) := by
  refine ⟨fun pins s σ H Q I h => ?_⟩
  refine wpAny_Call_Name_kw (ld_glob I hg hm ?_ hdb)
  refine PySem.W.callWith_KW0 (h₀ := X.base) I.ok.mod.kin hk hall ?_ hpl
  refine thn (hkw.run pos pins s σ H _ I h) fun ws s2 ⟨zs, H2, I2, rz, l1, l2, q2⟩ => ⟨I2.kIn, ?_⟩
  rw [hks]
  exact run_fnN (us := []) (vs := []) F hr hb hx I2 .nil rz rfl l2 q2
end
/-! ### heaps -/
/-- all that was tracked but at a is as it was -/
def But (a : Addr) (H H' : Hp) : Prop := ∀ b o, b ≠ a → H b = some o → H' b = some o
theorem But.app {a b : Addr} {H H' : Hp} {o : HO} (s : But a H H') (n : b ≠ a) (h : H b = some o) : H' b = some o := s _ _ n h
theorem But.refl {a : Addr} {H : Hp} : But a H H := fun _ _ _ h => h
theorem But.trans {a : Addr} {H H1 H2 : Hp} (s : But a H H1) (t : But a H1 H2) : But a H H2 := fun b o n h => t b o n (s b o n h)
theorem But.upd {a : Addr} {H H1 : Hp} {o : HO} (s : But a H H1) : But a H (upd H1 a o) := fun b u n h => by
  rw [upd_ne n]
  exact s b u n h
theorem But.new {a p : Addr} {H H1 : Hp} {o : HO} (s : But a H H1) (h : H1 p = none) : But a H (L2.upd H1 p o) := fun b u n e => by
  have e1 := s b u n e
  rw [upd_ne (ne_of_none e1 h)]
  exact e1
theorem Same.but {a : Addr} {H H1 : Hp} (s : Same H H1) : But a H H1 := fun b u n h => s b u h
theorem Same.app {b : Addr} {H H' : Hp} {o : HO} (s : Same H H') (h : H b = some o) : H' b = some o := s _ _ h
theorem Same.new {H H1 : Hp} {p : Addr} {o : HO} (s : Same H H1) (h : H1 p = none) : Same H (upd H1 p o) := fun b u e => by
  have e1 := s b u e
  rw [upd_ne (ne_of_none e1 h)]
  exact e1
theorem Same.mut {H H1 : Hp} {p : Addr} {o : HO} (s : Same H H1) (h : H p = none) : Same H (upd H1 p o) := fun b u e => by
  rw [upd_ne (ne_of_none e h)]
  exact s b u e
theorem But.seq {K : PySem.W.Frag} {H H' : Hp} {a b : Addr} {xs : List V} (e : But a H H') (n : b ≠ a) (h : SqL K H b xs) : SqL K H' b xs := by
  rcases h with (h | ⟨o, h⟩) | h
  · exact .inl (.inl (e _ _ n h))
  · exact .inl (.inr ⟨o, e _ _ n h⟩)
  · exact .inr h
theorem upd_keep {H : Hp} {a p : Addr} {o u : HO} (n : H p = none) (h : H a = some o) : upd H p u a = some o := (upd_ne (ne_of_none h n)).trans h
theorem Same.upd0 {H : Hp} {p : Addr} {o : HO} (n : H p = none) : Same H (upd H p o) := fun b u e => upd_keep n e
theorem sqL {K : PySem.W.Frag} {H : Hp} {a : Addr} {xs : List V} (h : H a = some (.lst xs)) : SqL K H a xs := .inl (.inl h)
theorem sqT {K : PySem.W.Frag} {H : Hp} {a : Addr} {xs : List V} (h : H a = some (.tup xs)) : SqT K H a xs := .inl (.inl h)
/-! ### new and changed objects, the heap behind them by a name -/
def New (H : Hp) (o : HO) (Q : VK) : Prop := ∀ p H', H p = none → Same H H' → H' p = some o → Q (.ref p) H'
theorem New.go {H : Hp} {o : HO} {Q : VK} (h : New H o Q) : ∀ p, H p = none → Q (.ref p) (upd H p o) := fun p n => h p _ n (Same.upd0 n) upd_same
/-- what stands at l becomes o -/
def Set1 (H : Hp) (l : Addr) (o : HO) (q : Hp → Prop) : Prop := ∀ H', But l H H' → H' l = some o → q H'
theorem Set1.go {H : Hp} {l : Addr} {o : HO} {q : Hp → Prop} (h : Set1 H l o q) : q (upd H l o) := h _ But.refl.upd upd_same
theorem pe_imp {X : Cx} {e : Expr} {t t' : TE} (h : PE X e t) (i : ∀ σ H Q, t' σ H Q → t σ H Q) : PE X e t' := ⟨fun pins s σ H Q I h' => h.run pins s σ H Q I (i _ _ _ h')⟩
theorem opR_imp {X : Cx} {f : Value → Value → Sem Value} {r r' : R2} (h : OpR X f r) (i : ∀ x y H Q, r' x y H Q → r x y H Q) : OpR X f r' := fun pins s σ H x y v u Q I rx ry q => h pins s σ H x y v u Q I rx ry (i _ _ _ _ q)
theorem callR_imp {X : Cx} {f : Value} {r r' : List V → Hp → VK → Prop} (h : CallR X f r) (i : ∀ xs H Q, r' xs H Q → r xs H Q) : CallR X f r' := fun pins s σ H xs us Q I rx q => h pins s σ H xs us Q I rx (i _ _ _ q)
theorem slR_imp {X : Cx} {r r' : V → Option Int → Option Int → Hp → VK → Prop} (h : SlR X r) (i : ∀ x lo hi H Q, r' x lo hi H Q → r x lo hi H Q) : SlR X r' := fun pins s σ H x v vl vu lo hi sl Q I rx a b c q => h pins s σ H x v vl vu lo hi sl Q I rx a b c (i _ _ _ _ _ q)
theorem mtM_imp {X : Cx} {id : String} {r r' : V → List V → Hp → VK → Prop} (h : MtM X id r) (i : ∀ x xs H Q, r' x xs H Q → r x xs H Q) : MtM X id r' := fun pins s σ H x xs v us Q I rx rv q => h pins s σ H x xs v us Q I rx rv (i _ _ _ _ q)
theorem pSet_imp {X : Cx} {r r' : TSet} (h : PSet X r) (i : ∀ x y z H Q, r' x y z H Q → r x y z H Q) : PSet X r' := fun pins s σ H o i' v ov iv u Q I a b c q => h pins s σ H o i' v ov iv u Q I a b c (i _ _ _ _ _ q)
section
variable {X : Cx} {es : List Expr} {t : TA} {pos : Pos}
/-- a tuple, a list -/
def tTupA (t : TA) : TE := fun σ H Q => t σ H fun xs H1 => xs.length ≤ sizeLine ∧ New H1 (.tup xs) Q
def tLstA (t : TA) : TE := fun σ H Q => t σ H fun xs H1 => xs.length ≤ sizeLine ∧ New H1 (.lst xs) Q
theorem pe_tupA {x1} (h : PA X es t) : PE X (.Tuple es x1 pos) (tTupA t) := by
  refine ⟨fun pins s σ H Q I hq => ?_⟩
  refine wpAny_Tuple_spliced (thn (h.run pos pins s σ H _ I hq) fun us s1 ⟨xs, H1, I1, r, z, q⟩ => ⟨by rw [← r.length]; exact z, ?_⟩)
  have hf : H1 s1.heap.objs.size = none := I1.hok.fresh (Nat.le_refl _)
  refine ⟨.ref s1.heap.objs.size, upd H1 s1.heap.objs.size (.tup xs), I1.laid (t' := s1.toks) (fun b u e => Heap.get?_push_of_some _ e) (Nat.le_refl _) ?_, rfl, q.go _ hf⟩
  exact ⟨z, us, r, ⟨_, Heap.get?_push_size _ rfl, rfl, _, rfl⟩⟩
theorem pe_lstA (h : PA X es t) : PE X (.List es pos) (tLstA t) := by
  refine ⟨fun pins s σ H Q I hq => ?_⟩
  refine wpAny_List_spliced (thn (h.run pos pins s σ H _ I hq) fun us s1 ⟨xs, H1, I1, r, z, q⟩ => ⟨by rw [← r.length]; exact z, ?_⟩)
  have hf : H1 s1.heap.objs.size = none := I1.hok.fresh (Nat.le_refl _)
  refine ⟨.ref s1.heap.objs.size, upd H1 s1.heap.objs.size (.lst xs), I1.laid (t' := s1.toks) (fun b u e => Heap.get?_push_of_some _ e) (Nat.le_refl _) ?_, rfl, q.go _ hf⟩
  exact ⟨z, us, 0, r, Heap.get?_push_size _ rfl⟩
def tDNewA : TE := fun _ H Q => New H (.dK []) Q
theorem pe_dnewA : PE X (.Dict [] [] pos) tDNewA := pe_imp pe_dnewK fun _ _ _ h => h.go
/-- list + list, list * n -/
def rCatA (K : PySem.W.Frag) : R2 := fun x y H Q => ∃ l b xs zs, x = .ref l ∧ y = .ref b ∧ H l = some (.lst xs) ∧ H b = some (.lst zs) ∧ xs.length + zs.length ≤ sizeLine ∧ New H (.lst (xs ++ zs)) Q
theorem op_catA : OpR X (binaryOp .Add) (rCatA X.K) := opR_imp op_cat fun _ _ _ _ ⟨l, b, xs, zs, e1, e2, h1, h2, z, q⟩ => ⟨l, b, xs, zs, e1, e2, h1, h2, z, q.go⟩
def rRepA : R2 := fun x y H Q => ∃ l k xs, x = .ref l ∧ y = .int k ∧ H l = some (.lst xs) ∧ -(2 ^ 63) ≤ k ∧ k < 2 ^ 63 ∧ xs.length * k.toNat ≤ sizeLine ∧ New H (.lst (List.replicate k.toNat xs).flatten) Q
theorem op_repA : OpR X (binaryOp .Mult) rRepA := opR_imp op_rep fun _ _ _ _ ⟨l, k, xs, e1, e2, h1, h2, h3, z, q⟩ => ⟨l, k, xs, e1, e2, h1, h2, h3, z, q.go⟩
def rSlA (K : PySem.W.Frag) : V → Option Int → Option Int → Hp → VK → Prop := fun x lo hi H Q => ∃ a xs, x = .ref a ∧ SqL K H a xs ∧ New H (.lst (cutV xs lo hi)) Q
theorem sl_listA : SlR X (rSlA X.K) := slR_imp sl_list fun _ _ _ _ _ ⟨a, xs, e, h1, q⟩ => ⟨a, xs, e, h1, q.go⟩
def rListA (K : PySem.W.Frag) : List V → Hp → VK → Prop := fun xs H Q => ∃ p ys, xs = [.ref p] ∧ (SqL K H p ys ∨ SqT K H p ys) ∧ New H (.lst ys) Q
theorem call_listA : CallR X (.type "list") (rListA X.K) := callR_imp call_list_of fun _ _ _ ⟨p, ys, e, h, q⟩ => ⟨p, ys, e, h, q.go⟩
/-- tuple(a list) -/
def rTupLA (K : PySem.W.Frag) : List V → Hp → VK → Prop := fun xs H Q => ∃ p ys, xs = [.ref p] ∧ SqL K H p ys ∧ New H (.tup ys) Q
theorem call_tupLA : CallR X (.type "tuple") (rTupLA X.K) := callR_imp call_tuple_of fun _ _ _ ⟨p, ys, e, h, q⟩ => ⟨p, ys, e, .inl ⟨h, q.go⟩⟩
def rSetA : V → V → V → Hp → (Hp → Prop) → Prop := fun o i v H Q => ∃ p xs k j, o = .ref p ∧ i = .int k ∧ H p = some (.lst xs) ∧ ixN xs.length k = some j ∧ Set1 H p (.lst (xs.set j v)) Q
theorem set_listA : PSet X rSetA := pSet_imp set_list fun _ _ _ _ _ ⟨p, xs, k, j, e1, e2, h1, h2, q⟩ => ⟨p, xs, k, j, e1, e2, h1, h2, q.go⟩
def rAppendA : V → List V → Hp → VK → Prop := fun x vs H Q => ∃ l xs y, x = .ref l ∧ vs = [y] ∧ H l = some (.lst xs) ∧ xs.length < sizeLine ∧ Set1 H l (.lst (xs ++ [y])) (Q .non)
def rClearA : V → List V → Hp → VK → Prop := fun x vs H Q => ∃ l xs, x = .ref l ∧ vs = [] ∧ H l = some (.lst xs) ∧ Set1 H l (.lst []) (Q .non)
theorem mt_clearA : MtM X "list.clear" rClearA := mtM_imp mt_clear fun _ _ _ _ ⟨l, xs, e1, e2, h1, q⟩ => ⟨l, xs, e1, e2, h1, q.go⟩
theorem mt_appendA : MtM X "list.append" rAppendA := mtM_imp mt_append fun _ _ _ _ ⟨l, xs, y, e1, e2, h1, h2, q⟩ => ⟨l, xs, y, e1, e2, h1, h2, q.go⟩
end
theorem cutV_mem {xs : List V} {lo hi : Option Int} {x : V} (h : x ∈ cutV xs lo hi) : x ∈ xs := List.mem_of_mem_drop (List.mem_of_mem_take h)
theorem int_of_map {ns : List Int} {i : Nat} {y : V} (h : (ns.map V.int)[i]? = some y) : ∃ z, ns[i]? = some z ∧ y = .int z := by
  rw [List.getElem?_map] at h
  cases e : ns[i]? with
  | none => rw [e] at h; cases h
  | some z => rw [e] at h; exact ⟨z, rfl, (Option.some.inj h).symm⟩
/-- the law's numbers: the first one (0 without), and some more -/
theorem cells_ints {c : Int} {ns : List Int} {lo hi : Option Int} {i : Nat} {y : V} (h : ([V.int c] ++ cutV (ns.map V.int) lo hi)[i]? = some y) : ∃ z, y = .int z := by
  have m := List.mem_of_getElem? h
  rcases List.mem_append.mp m with m | m
  · exact ⟨c, by simpa using m⟩
  · have m2 := cutV_mem m
    obtain ⟨z, _, e⟩ := List.mem_map.mp m2
    exact ⟨z, e.symm⟩
theorem cells_len {ns : List Int} {lo hi : Option Int} (h : ns.length ≤ 63) : ([V.int 0] : List V).length + (cutV (ns.map V.int) lo hi).length ≤ sizeLine := by
  have h1 := cutV_length (ns.map V.int) lo hi
  rw [List.length_map] at h1
  exact Nat.le_trans (by show 1 + _ ≤ 100; omega) (by decide)
/-! ### kinds -/
def isI : V → Bool
  | .int _ => true
  | _ => false
def isN : V → Bool
  | .int i => decide (0 ≤ i)
  | _ => false
def isB : V → Bool
  | .bl _ => true
  | _ => false
/-- a value of one of the plain kinds -/
inductive Ty7 (H : Hp) : V → String → Prop where
  | non : Ty7 H .non "NoneType"
  | bl (b : Bool) : Ty7 H (.bl b) "bool"
  | int (i : Int) : Ty7 H (.int i) "int"
  | str (x : Str) : Ty7 H (.str x) "str"
  | lst {a : Addr} {xs : List V} (h : H a = some (.lst xs)) : Ty7 H (.ref a) "list"
  | tup {a : Addr} {xs : List V} (h : H a = some (.tup xs)) : Ty7 H (.ref a) "tuple"
  | dK {a : Addr} {xs : List (Key × V)} (h : H a = some (.dK xs)) : Ty7 H (.ref a) "dict"
section
variable {K : PySem.W.Frag} {H H' : Hp} {x : V} {t : String}
theorem Ty7.tx (h : Ty7 H x t) : TyX K H x (.type t) := by
  cases h with
  | non => exact .base .non
  | bl b => exact .base (.bl b)
  | int i => exact .base (.int i)
  | str i => exact .base (.str i)
  | lst h => exact .base (.lst h)
  | tup h => exact .base (.tup h)
  | dK h => exact .base (.dK h)
theorem Ty7.ki (h : Ty7 H x t) : kitB t "int" = some (isI x || isB x) := by
  cases h <;> (simp only [isI, isB]; decide +kernel)
theorem Ty7.kb (h : Ty7 H x t) : kitB t "bool" = some (isB x) := by
  cases h <;> (simp only [isB]; decide +kernel)
theorem Ty7.kl (h : Ty7 H x t) : kitB t "list" = some (decide (t = "list")) := by
  cases h <;> decide +kernel
theorem Ty7.kt (h : Ty7 H x t) : kitB t "tuple" = some (decide (t = "tuple")) := by
  cases h <;> decide +kernel
theorem Ty7.ks (h : Ty7 H x t) : kitB t "str" = some (decide (t = "str")) := by
  cases h <;> decide +kernel
theorem Ty7.mono (h : Ty7 H x t) (s : Same H H') : Ty7 H' x t := by
  cases h with
  | non => exact .non
  | bl b => exact .bl b
  | int i => exact .int i
  | str i => exact .str i
  | lst h => exact .lst (s _ _ h)
  | tup h => exact .tup (s _ _ h)
  | dK h => exact .dK (s _ _ h)
end
theorem isI_of : ∀ {x : V}, isI x = true → ∃ i, x = .int i
  | .int i, _ => ⟨i, rfl⟩
theorem isI_bool {x : V} (h : (isI x || isB x) = true) : (!isB x) = isI x := by
  cases x <;> simp_all [isI, isB]
theorem isI_no {x : V} (h : ¬ (isI x || isB x) = true) : false = isI x := by
  cases x <;> simp_all [isI, isB]
def heldM (n l : Int) (m : Option Int) : Int := max (match m with | some m => min n m | none => n) l
def optI : Option Int → V
  | some i => .int i
  | none => .non
/-- the law's source of draws: three whole numbers -/
def src (s : Int × Int × Int) : HO := .lst [.int s.1, .int s.2.1, .int s.2.2]
/-! ### draws: only the source at a changes -/
def Src (H : Hp) (a : Addr) : Prop := ∃ s, H a = some (src s)
structure Dr (a : Addr) (H H' : Hp) : Prop where
  s : Src H' a
  b : But a H H'
theorem Dr.app {a b : Addr} {H H' : Hp} {o : HO} (d : Dr a H H') (n : b ≠ a) (h : H b = some o) : H' b = some o := d.b _ _ n h
theorem Dr.trans {a : Addr} {H H1 H2 : Hp} (d : Dr a H H1) (e : Dr a H1 H2) : Dr a H H2 := ⟨e.s, d.b.trans e.b⟩
theorem Dr.same {a : Addr} {H H1 H2 : Hp} (d : Dr a H H1) (e : Same H1 H2) : Dr a H H2 := ⟨let ⟨s, h⟩ := d.s; ⟨s, e _ _ h⟩, d.b.trans (Same.but e)⟩
theorem Dr.of {a : Addr} {H H1 : Hp} (h : Src H a) (e : Same H H1) : Dr a H H1 := ⟨let ⟨s, h⟩ := h; ⟨s, e _ _ h⟩, Same.but e⟩
theorem Dr.refl {a : Addr} {H : Hp} (h : Src H a) : Dr a H H := ⟨h, But.refl⟩
/-- a list that was not there may change -/
theorem Dr.mut {a l : Addr} {H H1 H2 : Hp} (d : Dr a H H1) (e : But l H1 H2) (n : H l = none) (na : a ≠ l) : Dr a H H2 :=
  ⟨let ⟨s, h⟩ := d.s; ⟨s, e _ _ na h⟩, fun b o nb h => e _ _ (ne_of_none h n) (d.b _ _ nb h)⟩
theorem Same.mut' {l : Addr} {H H1 H2 : Hp} (d : Same H H1) (e : But l H1 H2) (n : H l = none) : Same H H2 := fun b o h => e _ _ (ne_of_none h n) (d _ _ h)
theorem Src.same {a : Addr} {H H1 : Hp} (h : Src H a) (e : Same H H1) : Src H1 a := let ⟨s, h⟩ := h; ⟨s, e _ _ h⟩
theorem Src.but {a l : Addr} {H H1 : Hp} (h : Src H a) (e : But l H H1) (n : a ≠ l) : Src H1 a := let ⟨s, h⟩ := h; ⟨s, e _ _ n h⟩
theorem Src.ne {a p : Addr} {H : Hp} (h : Src H a) (n : H p = none) : p ≠ a := let ⟨_, h⟩ := h; (ne_of_none h n).symm
theorem Src.of {a : Addr} {H : Hp} {s : Int × Int × Int} (h : H a = some (src s)) : Src H a := ⟨s, h⟩
theorem Dr.free {a l : Addr} {H H' : Hp} (d : Dr a H H') (h : H' l = none) (n : l ≠ a) : H l = none := by
  cases q : H l with
  | none => rfl
  | some o => rw [d.b _ _ n q] at h; cases h
theorem Dr.seq {K : PySem.W.Frag} {H H' : Hp} {a b : Addr} {xs : List V} (e : Dr a H H') (n : b ≠ a) (h : SqL K H b xs) : SqL K H' b xs := e.b.seq n h
/-! ### comprehensions: P by the turn, the items so far, the heap; the item's end by a continuation of any kind -/
section
variable {K : PySem.W.Frag} {a b : Addr} {xs zs : List V} {g : TG} {tt : TT} {te : TE} {vs : List Nat} {σ : L2.St} {H1 : Hp} {D : Addr} {Qd : Hp → Prop}
/-- what an item's turn is to end in -/
abbrev LcT (g : TG) (tt : TT) (te : TE) (vs : List Nat) (σ : L2.St) (x : V) (H : Hp) (Kt : V → Hp → Prop) (Kf : Hp → Prop) : Prop :=
  g x (wipe σ vs) H fun σ2 H2 => wipe σ2 vs = wipe σ vs ∧ tt σ2 H2 fun b H3 => if b = true then te σ2 H3 Kt else Kf H3
/-- the ends of a turn -/
structure LcK (D : Addr) (P : List V → Hp → Prop) (acc : List V) (Kt : V → Hp → Prop) (Kf : Hp → Prop) : Prop where
  yes : ∀ y H4, H4 D = some (.lst acc) → acc.length < sizeLine → (∀ H5, But D H4 H5 → H5 D = some (.lst (acc ++ [y])) → P (acc ++ [y]) H5) → Kt y H4
  no : ∀ H3, H3 D = some (.lst acc) → P acc H3 → Kf H3
theorem lcL (P : Nat → List V → Hp → Prop) (h0 : ∀ H', Same H1 H' → H' D = some (.lst []) → P 0 [] H') (hD : H1 D = none) (hl : ∀ i acc H, P i acc H → SqL K H a xs)
    (hs : ∀ i x acc H Kt Kf, xs[i]? = some x → P i acc H → H D = some (.lst acc) → LcK D (P (i + 1)) acc Kt Kf → LcT g tt te vs σ x H Kt Kf)
    (hd : ∀ acc H, P xs.length acc H → H D = some (.lst acc) → Qd H) :
    ∃ W : Nat → Nat → Hp → Prop, (∃ m, W 0 m (upd H1 D (.lst []))) ∧ ∀ i m H, W i m H →
      ((Itl K a).stop i H ∧ Qd H) ∨ ((Itl K a).go i H ∧ ∃ Nx : Hp → Prop, (∀ H', Nx H' → ∃ m', m' < m ∧ W (i + 1) m' H') ∧ ∀ x H', (Itl K a).yld i H x H' → g x (wipe σ vs) H' fun σ2 H2 => wipe σ2 vs = wipe σ vs ∧ tt σ2 H2 fun b H3 =>
        if b = true then te σ2 H3 fun y H4 => ∃ acc, H4 D = some (.lst acc) ∧ acc.length < sizeLine ∧ Nx (upd H4 D (.lst (acc ++ [y]))) else Nx H3) :=
  lc_list (xs := xs) (fun i H => ∃ acc, H D = some (.lst acc) ∧ P i acc H) ⟨[], upd_same, h0 _ (Same.upd0 hD) upd_same⟩ (fun i H _ ⟨acc, _, p⟩ => hl i acc H p)
    (fun i x H hx ⟨acc, e, p⟩ => hs i x acc H _ _ hx p e ⟨fun y H4 e4 z k => ⟨acc, e4, z, acc ++ [y], upd_same, k _ But.refl.upd upd_same⟩, fun H3 e3 k => ⟨acc, e3, k⟩⟩) (fun H ⟨acc, e, p⟩ => hd acc H p e)
theorem lcT (P : Nat → List V → Hp → Prop) (h0 : ∀ H', Same H1 H' → H' D = some (.lst []) → P 0 [] H') (hD : H1 D = none) (hl : ∀ i acc H, P i acc H → SqT K H a xs)
    (hs : ∀ i x acc H Kt Kf, xs[i]? = some x → P i acc H → H D = some (.lst acc) → LcK D (P (i + 1)) acc Kt Kf → LcT g tt te vs σ x H Kt Kf)
    (hd : ∀ acc H, P xs.length acc H → H D = some (.lst acc) → Qd H) :
    ∃ W : Nat → Nat → Hp → Prop, (∃ m, W 0 m (upd H1 D (.lst []))) ∧ ∀ i m H, W i m H →
      ((Itt K a).stop i H ∧ Qd H) ∨ ((Itt K a).go i H ∧ ∃ Nx : Hp → Prop, (∀ H', Nx H' → ∃ m', m' < m ∧ W (i + 1) m' H') ∧ ∀ x H', (Itt K a).yld i H x H' → g x (wipe σ vs) H' fun σ2 H2 => wipe σ2 vs = wipe σ vs ∧ tt σ2 H2 fun b H3 =>
        if b = true then te σ2 H3 fun y H4 => ∃ acc, H4 D = some (.lst acc) ∧ acc.length < sizeLine ∧ Nx (upd H4 D (.lst (acc ++ [y]))) else Nx H3) :=
  lc_tup (xs := xs) (fun i H => ∃ acc, H D = some (.lst acc) ∧ P i acc H) ⟨[], upd_same, h0 _ (Same.upd0 hD) upd_same⟩ (fun i H _ ⟨acc, _, p⟩ => hl i acc H p)
    (fun i x H hx ⟨acc, e, p⟩ => hs i x acc H _ _ hx p e ⟨fun y H4 e4 z k => ⟨acc, e4, z, acc ++ [y], upd_same, k _ But.refl.upd upd_same⟩, fun H3 e3 k => ⟨acc, e3, k⟩⟩) (fun H ⟨acc, e, p⟩ => hd acc H p e)
theorem lcR {lo : Int} {n : Nat} (P : Nat → List V → Hp → Prop) (h0 : ∀ H', Same H1 H' → H' D = some (.lst []) → P 0 [] H') (hD : H1 D = none)
    (hs : ∀ i acc H Kt Kf, i < n → P i acc H → H D = some (.lst acc) → LcK D (P (i + 1)) acc Kt Kf → LcT g tt te vs σ (.int (lo + i)) H Kt Kf)
    (hd : ∀ acc H, P n acc H → H D = some (.lst acc) → Qd H) :
    ∃ W : Nat → Nat → Hp → Prop, (∃ m, W 0 m (upd H1 D (.lst []))) ∧ ∀ i m H, W i m H →
      ((Itr lo n).stop i H ∧ Qd H) ∨ ((Itr lo n).go i H ∧ ∃ Nx : Hp → Prop, (∀ H', Nx H' → ∃ m', m' < m ∧ W (i + 1) m' H') ∧ ∀ x H', (Itr lo n).yld i H x H' → g x (wipe σ vs) H' fun σ2 H2 => wipe σ2 vs = wipe σ vs ∧ tt σ2 H2 fun b H3 =>
        if b = true then te σ2 H3 fun y H4 => ∃ acc, H4 D = some (.lst acc) ∧ acc.length < sizeLine ∧ Nx (upd H4 D (.lst (acc ++ [y]))) else Nx H3) :=
  lc_range (fun i H => ∃ acc, H D = some (.lst acc) ∧ P i acc H) ⟨[], upd_same, h0 _ (Same.upd0 hD) upd_same⟩
    (fun i H hx ⟨acc, e, p⟩ => hs i acc H _ _ hx p e ⟨fun y H4 e4 z k => ⟨acc, e4, z, acc ++ [y], upd_same, k _ But.refl.upd upd_same⟩, fun H3 e3 k => ⟨acc, e3, k⟩⟩) (fun H ⟨acc, e, p⟩ => hd acc H p e)
/-- over enumerate: the pair is a new tuple -/
theorem lcE (P : Nat → List V → Hp → Prop) (h0 : ∀ H', Same H1 H' → H' D = some (.lst []) → P 0 [] H') (hD : H1 D = none) (hl : ∀ i acc H, P i acc H → SqL K H a xs)
    (hs : ∀ i x acc H T H' Kt Kf, xs[i]? = some x → P i acc H → H D = some (.lst acc) → H T = none → Same H H' → H' T = some (.tup [.int (i : Nat), x]) → LcK D (P (i + 1)) acc Kt Kf → LcT g tt te vs σ (.ref T) H' Kt Kf)
    (hd : ∀ acc H, P xs.length acc H → H D = some (.lst acc) → Qd H) :
    ∃ W : Nat → Nat → Hp → Prop, (∃ m, W 0 m (upd H1 D (.lst []))) ∧ ∀ i m H, W i m H →
      ((Ite K a).stop i H ∧ Qd H) ∨ ((Ite K a).go i H ∧ ∃ Nx : Hp → Prop, (∀ H', Nx H' → ∃ m', m' < m ∧ W (i + 1) m' H') ∧ ∀ x H', (Ite K a).yld i H x H' → g x (wipe σ vs) H' fun σ2 H2 => wipe σ2 vs = wipe σ vs ∧ tt σ2 H2 fun b H3 =>
        if b = true then te σ2 H3 fun y H4 => ∃ acc, H4 D = some (.lst acc) ∧ acc.length < sizeLine ∧ Nx (upd H4 D (.lst (acc ++ [y]))) else Nx H3) := by
  refine ⟨fun i m H => m = xs.length - i ∧ i ≤ xs.length ∧ ∃ acc, H D = some (.lst acc) ∧ P i acc H, ⟨xs.length, rfl, Nat.zero_le _, [], upd_same, h0 _ (Same.upd0 hD) upd_same⟩, ?_⟩
  rintro i m H ⟨rfl, hi, acc, e, p⟩
  have q := hl i acc H p
  by_cases hlt : i < xs.length
  · refine .inr ⟨⟨xs, xs[i], q, by simp [hlt]⟩, fun H => ∃ acc, H D = some (.lst acc) ∧ P (i + 1) acc H, fun H' p' => ⟨xs.length - (i + 1), by omega, rfl, hlt, p'⟩, fun v H' y => ?_⟩
    obtain ⟨T, x, rfl, nT, rfl, hx⟩ := y
    exact hs i x acc H T _ _ _ (hx xs q) p e nT (Same.upd0 nT) upd_same ⟨fun y H4 e4 z k => ⟨acc, e4, z, acc ++ [y], upd_same, k _ But.refl.upd upd_same⟩, fun H3 e3 k => ⟨acc, e3, k⟩⟩
  · have ei : i = xs.length := by omega
    subst ei
    exact .inl ⟨⟨xs, q, Nat.le_refl _⟩, hd acc H p e⟩
/-- over zip of two lists of one length -/
theorem lcZ (hlen : xs.length = zs.length) (P : Nat → List V → Hp → Prop) (h0 : ∀ H', Same H1 H' → H' D = some (.lst []) → P 0 [] H') (hD : H1 D = none) (hl : ∀ i acc H, P i acc H → SqL K H a xs ∧ SqL K H b zs)
    (hs : ∀ i x z acc H T H' Kt Kf, xs[i]? = some x → zs[i]? = some z → P i acc H → H D = some (.lst acc) → H T = none → Same H H' → H' T = some (.tup [x, z]) → LcK D (P (i + 1)) acc Kt Kf → LcT g tt te vs σ (.ref T) H' Kt Kf)
    (hd : ∀ acc H, P xs.length acc H → H D = some (.lst acc) → Qd H) :
    ∃ W : Nat → Nat → Hp → Prop, (∃ m, W 0 m (upd H1 D (.lst []))) ∧ ∀ i m H, W i m H →
      ((Itz K a b).stop i H ∧ Qd H) ∨ ((Itz K a b).go i H ∧ ∃ Nx : Hp → Prop, (∀ H', Nx H' → ∃ m', m' < m ∧ W (i + 1) m' H') ∧ ∀ x H', (Itz K a b).yld i H x H' → g x (wipe σ vs) H' fun σ2 H2 => wipe σ2 vs = wipe σ vs ∧ tt σ2 H2 fun b H3 =>
        if b = true then te σ2 H3 fun y H4 => ∃ acc, H4 D = some (.lst acc) ∧ acc.length < sizeLine ∧ Nx (upd H4 D (.lst (acc ++ [y]))) else Nx H3) := by
  refine ⟨fun i m H => m = xs.length - i ∧ i ≤ xs.length ∧ ∃ acc, H D = some (.lst acc) ∧ P i acc H, ⟨xs.length, rfl, Nat.zero_le _, [], upd_same, h0 _ (Same.upd0 hD) upd_same⟩, ?_⟩
  rintro i m H ⟨rfl, hi, acc, e, p⟩
  obtain ⟨q1, q2⟩ := hl i acc H p
  by_cases hlt : i < xs.length
  · have hlt2 : i < zs.length := by omega
    refine .inr ⟨⟨xs, zs, xs[i], zs[i], q1, q2, by simp [hlt], by simp [hlt2]⟩, fun H => ∃ acc, H D = some (.lst acc) ∧ P (i + 1) acc H, fun H' p' => ⟨xs.length - (i + 1), by omega, rfl, hlt, p'⟩, fun v H' y => ?_⟩
    obtain ⟨T, x, z, rfl, nT, rfl, hx, hz⟩ := y
    exact hs i x z acc H T _ _ _ (hx xs q1) (hz zs q2) p e nT (Same.upd0 nT) upd_same ⟨fun y H4 e4 z k => ⟨acc, e4, z, acc ++ [y], upd_same, k _ But.refl.upd upd_same⟩, fun H3 e3 k => ⟨acc, e3, k⟩⟩
  · have ei : i = xs.length := by omega
    subst ei
    exact .inl ⟨⟨xs, zs, q1, q2, .inl (Nat.le_refl _)⟩, hd acc H p e⟩
/-- items that hang on the item alone (what stands, stands): the list of those that are told -/
def lcYs (n : Nat) (ys : Nat → Option V) : List V := (List.range n).filterMap ys
theorem lcYs_succ (n : Nat) (ys : Nat → Option V) : lcYs (n + 1) ys = lcYs n ys ++ (ys n).toList := by
  unfold lcYs
  rw [List.range_succ, List.filterMap_append]
  cases h : ys n with
  | none => simp [h]
  | some y => simp [h]
theorem lcYs_len (n : Nat) (ys : Nat → Option V) : (lcYs n ys).length ≤ n := by
  unfold lcYs
  have := List.length_filterMap_le ys (List.range n)
  rw [List.length_range] at this
  exact this
theorem lcYs_const (n : Nat) (v : V) : lcYs n (fun _ => some v) = List.replicate n v := by
  induction n with
  | zero => rfl
  | succ n ih => rw [lcYs_succ, ih, List.replicate_succ']; rfl
/-- .. one for each item -/
theorem lcYs_map {α : Type} (f : α → V) : ∀ (xs : List α) (ys : Nat → Option V), (∀ i x, xs[i]? = some x → ys i = some (f x)) → lcYs xs.length ys = xs.map f := by
  intro xs ys h
  have key : ∀ n, n ≤ xs.length → lcYs n ys = (xs.take n).map f := by
    intro n
    induction n with
    | zero => intro _; rfl
    | succ n ih =>
      intro hn
      have hx : xs[n]? = some xs[n] := List.getElem?_eq_getElem (by omega)
      rw [lcYs_succ, ih (by omega), h n _ hx, List.take_add_one, hx, List.map_append]
      rfl
  rw [key _ (Nat.le_refl _), List.take_length]
/-- .. of those that a test keeps -/
theorem lcYs_filter {α : Type} (q : α → Bool) (f : α → V) : ∀ (xs : List α) (ys : Nat → Option V), (∀ i x, xs[i]? = some x → ys i = if q x = true then some (f x) else none) → lcYs xs.length ys = (xs.filter q).map f := by
  intro xs ys h
  have key : ∀ n, n ≤ xs.length → lcYs n ys = ((xs.take n).filter q).map f := by
    intro n
    induction n with
    | zero => intro _; rfl
    | succ n ih =>
      intro hn
      have hx : xs[n]? = some xs[n] := List.getElem?_eq_getElem (by omega)
      rw [lcYs_succ, ih (by omega), h n _ hx, List.take_add_one, hx, List.filter_append, List.map_append]
      congr 1
      cases hq : q xs[n] <;> simp [hq]
  rw [key _ (Nat.le_refl _), List.take_length]
/-- the ends of a turn that changes nothing -/
structure LcQ (H : Hp) (r : Option V) (Kt : V → Hp → Prop) (Kf : Hp → Prop) : Prop where
  yes : ∀ y H4, Same H H4 → r = some y → Kt y H4
  no : ∀ H3, Same H H3 → r = none → Kf H3
theorem lcQ_of {P : Nat → List V → Hp → Prop} {ys : Nat → Option V} {i : Nat} {acc : List V} {H H0 : Hp} {Kt : V → Hp → Prop} {Kf : Hp → Prop} (hP : P = fun i acc H => acc = lcYs i ys ∧ Same H1 H) (hD : H1 D = none) (hi : i < 100000)
    (p : P i acc H0) (e : H0 D = some (.lst acc)) (s : Same H0 H) (k : LcK D (P (i + 1)) acc Kt Kf) : LcQ H (ys i) Kt Kf := by
  subst hP
  obtain ⟨rfl, sm⟩ := p
  have hz : (lcYs i ys).length < sizeLine := Nat.lt_of_le_of_lt (lcYs_len i ys) (Nat.lt_of_lt_of_le hi (by decide))
  refine ⟨fun y H4 s4 ey => k.yes y H4 (s4 _ _ (s _ _ e)) hz fun H5 b5 _ => ⟨?_, ?_⟩, fun H3 s3 en => k.no H3 (s3 _ _ (s _ _ e)) ⟨?_, (sm.trans s).trans s3⟩⟩
  · rw [lcYs_succ, ey]; rfl
  · exact Same.mut' ((sm.trans s).trans s4) b5 hD
  · rw [lcYs_succ, en]; simp
theorem lcLq (ys : Nat → Option V) (hD : H1 D = none) (hx : SqL K H1 a xs) (hn : xs.length ≤ 100000)
    (hs : ∀ i x H Kt Kf, xs[i]? = some x → Same H1 H → LcQ H (ys i) Kt Kf → LcT g tt te vs σ x H Kt Kf)
    (hd : ∀ H, Same H1 H → H D = some (.lst (lcYs xs.length ys)) → Qd H) :
    ∃ W : Nat → Nat → Hp → Prop, (∃ m, W 0 m (upd H1 D (.lst []))) ∧ ∀ i m H, W i m H →
      ((Itl K a).stop i H ∧ Qd H) ∨ ((Itl K a).go i H ∧ ∃ Nx : Hp → Prop, (∀ H', Nx H' → ∃ m', m' < m ∧ W (i + 1) m' H') ∧ ∀ x H', (Itl K a).yld i H x H' → g x (wipe σ vs) H' fun σ2 H2 => wipe σ2 vs = wipe σ vs ∧ tt σ2 H2 fun b H3 =>
        if b = true then te σ2 H3 fun y H4 => ∃ acc, H4 D = some (.lst acc) ∧ acc.length < sizeLine ∧ Nx (upd H4 D (.lst (acc ++ [y]))) else Nx H3) :=
  lcL (fun i acc H => acc = lcYs i ys ∧ Same H1 H) (fun H' s _ => ⟨rfl, s⟩) hD (fun i acc H p => p.2.seq hx)
    (fun i x acc H Kt Kf hxi p e k => hs i x H Kt Kf hxi p.2 (lcQ_of rfl hD (by have := (List.getElem?_eq_some_iff.mp hxi).1; omega) p e (Same.refl H) k))
    (fun acc H p e => hd H p.2 (by rw [← p.1]; exact e))
theorem lcTq (ys : Nat → Option V) (hD : H1 D = none) (hx : SqT K H1 a xs) (hn : xs.length ≤ 100000)
    (hs : ∀ i x H Kt Kf, xs[i]? = some x → Same H1 H → LcQ H (ys i) Kt Kf → LcT g tt te vs σ x H Kt Kf)
    (hd : ∀ H, Same H1 H → H D = some (.lst (lcYs xs.length ys)) → Qd H) :
    ∃ W : Nat → Nat → Hp → Prop, (∃ m, W 0 m (upd H1 D (.lst []))) ∧ ∀ i m H, W i m H →
      ((Itt K a).stop i H ∧ Qd H) ∨ ((Itt K a).go i H ∧ ∃ Nx : Hp → Prop, (∀ H', Nx H' → ∃ m', m' < m ∧ W (i + 1) m' H') ∧ ∀ x H', (Itt K a).yld i H x H' → g x (wipe σ vs) H' fun σ2 H2 => wipe σ2 vs = wipe σ vs ∧ tt σ2 H2 fun b H3 =>
        if b = true then te σ2 H3 fun y H4 => ∃ acc, H4 D = some (.lst acc) ∧ acc.length < sizeLine ∧ Nx (upd H4 D (.lst (acc ++ [y]))) else Nx H3) :=
  lcT (fun i acc H => acc = lcYs i ys ∧ Same H1 H) (fun H' s _ => ⟨rfl, s⟩) hD (fun i acc H p => (show SqT K H a xs from by
      rcases hx with (h | ⟨o, h⟩) | h
      · exact .inl (.inl (p.2 _ _ h))
      · exact .inl (.inr ⟨o, p.2 _ _ h⟩)
      · exact .inr h))
    (fun i x acc H Kt Kf hxi p e k => hs i x H Kt Kf hxi p.2 (lcQ_of rfl hD (by have := (List.getElem?_eq_some_iff.mp hxi).1; omega) p e (Same.refl H) k))
    (fun acc H p e => hd H p.2 (by rw [← p.1]; exact e))
theorem lcRq {lo : Int} {n : Nat} (ys : Nat → Option V) (hD : H1 D = none) (hn : n ≤ 100000)
    (hs : ∀ i H Kt Kf, i < n → Same H1 H → LcQ H (ys i) Kt Kf → LcT g tt te vs σ (.int (lo + i)) H Kt Kf)
    (hd : ∀ H, Same H1 H → H D = some (.lst (lcYs n ys)) → Qd H) :
    ∃ W : Nat → Nat → Hp → Prop, (∃ m, W 0 m (upd H1 D (.lst []))) ∧ ∀ i m H, W i m H →
      ((Itr lo n).stop i H ∧ Qd H) ∨ ((Itr lo n).go i H ∧ ∃ Nx : Hp → Prop, (∀ H', Nx H' → ∃ m', m' < m ∧ W (i + 1) m' H') ∧ ∀ x H', (Itr lo n).yld i H x H' → g x (wipe σ vs) H' fun σ2 H2 => wipe σ2 vs = wipe σ vs ∧ tt σ2 H2 fun b H3 =>
        if b = true then te σ2 H3 fun y H4 => ∃ acc, H4 D = some (.lst acc) ∧ acc.length < sizeLine ∧ Nx (upd H4 D (.lst (acc ++ [y]))) else Nx H3) :=
  lcR (fun i acc H => acc = lcYs i ys ∧ Same H1 H) (fun H' s _ => ⟨rfl, s⟩) hD
    (fun i acc H Kt Kf hxi p e k => hs i H Kt Kf hxi p.2 (lcQ_of rfl hD (by omega) p e (Same.refl H) k))
    (fun acc H p e => hd H p.2 (by rw [← p.1]; exact e))
theorem lcEq (ys : Nat → Option V) (hD : H1 D = none) (hx : SqL K H1 a xs) (hn : xs.length ≤ 100000)
    (hs : ∀ i x T H Kt Kf, xs[i]? = some x → Same H1 H → H T = some (.tup [.int (i : Nat), x]) → LcQ H (ys i) Kt Kf → LcT g tt te vs σ (.ref T) H Kt Kf)
    (hd : ∀ H, Same H1 H → H D = some (.lst (lcYs xs.length ys)) → Qd H) :
    ∃ W : Nat → Nat → Hp → Prop, (∃ m, W 0 m (upd H1 D (.lst []))) ∧ ∀ i m H, W i m H →
      ((Ite K a).stop i H ∧ Qd H) ∨ ((Ite K a).go i H ∧ ∃ Nx : Hp → Prop, (∀ H', Nx H' → ∃ m', m' < m ∧ W (i + 1) m' H') ∧ ∀ x H', (Ite K a).yld i H x H' → g x (wipe σ vs) H' fun σ2 H2 => wipe σ2 vs = wipe σ vs ∧ tt σ2 H2 fun b H3 =>
        if b = true then te σ2 H3 fun y H4 => ∃ acc, H4 D = some (.lst acc) ∧ acc.length < sizeLine ∧ Nx (upd H4 D (.lst (acc ++ [y]))) else Nx H3) :=
  lcE (fun i acc H => acc = lcYs i ys ∧ Same H1 H) (fun H' s _ => ⟨rfl, s⟩) hD (fun i acc H p => p.2.seq hx)
    (fun i x acc H T H' Kt Kf hxi p e nT sT gT k => hs i x T H' Kt Kf hxi (p.2.trans sT) gT (lcQ_of rfl hD (by have := (List.getElem?_eq_some_iff.mp hxi).1; omega) p e sT k))
    (fun acc H p e => hd H p.2 (by rw [← p.1]; exact e))
theorem lcZq (ys : Nat → Option V) (hlen : xs.length = zs.length) (hD : H1 D = none) (hx : SqL K H1 a xs) (hz : SqL K H1 b zs) (hn : xs.length ≤ 100000)
    (hs : ∀ i x z T H Kt Kf, xs[i]? = some x → zs[i]? = some z → Same H1 H → H T = some (.tup [x, z]) → LcQ H (ys i) Kt Kf → LcT g tt te vs σ (.ref T) H Kt Kf)
    (hd : ∀ H, Same H1 H → H D = some (.lst (lcYs xs.length ys)) → Qd H) :
    ∃ W : Nat → Nat → Hp → Prop, (∃ m, W 0 m (upd H1 D (.lst []))) ∧ ∀ i m H, W i m H →
      ((Itz K a b).stop i H ∧ Qd H) ∨ ((Itz K a b).go i H ∧ ∃ Nx : Hp → Prop, (∀ H', Nx H' → ∃ m', m' < m ∧ W (i + 1) m' H') ∧ ∀ x H', (Itz K a b).yld i H x H' → g x (wipe σ vs) H' fun σ2 H2 => wipe σ2 vs = wipe σ vs ∧ tt σ2 H2 fun b H3 =>
        if b = true then te σ2 H3 fun y H4 => ∃ acc, H4 D = some (.lst acc) ∧ acc.length < sizeLine ∧ Nx (upd H4 D (.lst (acc ++ [y]))) else Nx H3) :=
  lcZ hlen (fun i acc H => acc = lcYs i ys ∧ Same H1 H) (fun H' s _ => ⟨rfl, s⟩) hD (fun i acc H p => ⟨p.2.seq hx, p.2.seq hz⟩)
    (fun i x z acc H T H' Kt Kf hxi hzi p e nT sT gT k => hs i x z T H' Kt Kf hxi hzi (p.2.trans sT) gT (lcQ_of rfl hD (by have := (List.getElem?_eq_some_iff.mp hxi).1; omega) p e sT k))
    (fun acc H p e => hd H p.2 (by rw [← p.1]; exact e))
end
/-- the items of a dict: it is held from there on (nobody else has it) -/
def iItemsN (td : TE) : TI := fun σ H R => td σ H fun x H1 => ∃ d kvs, x = .ref d ∧ H1 d = some (.dK kvs) ∧ ∀ o H2, But d H1 H2 → H2 d = some (.frz o (.dK kvs)) → R (Iti d o kvs) H2
theorem pi_itemsN {X : Cx} {e : Expr} {td : TE} {apos cpos : Pos} {elts : List Expr} {kk : Nat} {tpos : Pos} (he : PE X e td) (hbase : attributeBase e "items" X.env (eval e X.env) = eval e X.env := by rfl) (hline : (apos.endLine == cpos.line) = true := by rfl) :
    PI X (.Tuple elts kk tpos) (.Call (.Attribute e "items" apos) [] [] cpos) (iItemsN td) := by
  refine ⟨fun pins s σ H R I h => ?_⟩
  refine wpAny_Call_method (T := "dict") (id := "dict.items") hbase rfl hline F.plainAttrs_dict F.slot_dict_items F.type_dict_items (thn (he.run pins s σ H _ I h) fun u s1 ⟨x, H0, I0, rx, d, kvs, ex, hd0, q0⟩ => ?_)
  subst ex
  obtain rfl : u = Value.ref d := rx
  obtain ⟨o, I1⟩ := I0.lock hd0 trivial
  have hd : (upd H0 d (.frz o (.dK kvs))) d = some (.frz o (.dK kvs)) := upd_same
  have q := q0 o _ But.refl.upd hd
  generalize upd H0 d (.frz o (.dK kvs)) = H1 at I1 hd q
  obtain ⟨hs, hgd, hx, es, ep, vs, hdt, hsz, kv, hm⟩ := I1.frzK hd
  have hl : kvs.length = vs.length := Paired.length kv
  refine ⟨hm.dictOf.typeIs, hm.dictOf.mapOf.noDict, ?_⟩
  have I2 : Inv X pins σ H1 { s1 with heap := s1.heap.push { cls := .type "dict_items", data := .fields #[.ref d] } } := I1.kept (t' := s1.toks) fun b ob q => Heap.get?_push_of_some _ q
  have fin : wpAny (model X.prog X.w) X.A (pyIter (.ref s1.heap.objs.size)) (PIE X pins σ (.Tuple elts kk tpos) R) X.xe { s1 with heap := s1.heap.push { cls := .type "dict_items", data := .fields #[.ref d] } } := by
    refine wpAny_pyIter_items (d := d) (knd := mixKind X.prog X.w) ⟨_, Heap.get?_push_size _ rfl, rfl, rfl⟩ (hm.push _) (pi_one (tk := s1.toks) I2 _ (turn_items _ hdt) ⟨.none, .none, ?_⟩ q)
    rw [hl]
    exact Heap.get?_push_size _ rfl
  show wpAny _ _ (callWith cpos (.builtin "dict.items") [.ref d] [] []) _ X.xe s1
  exact method_meetsIn F.slot_dict_items F.entry_dict_items rfl (PySem.evalArgs_none ⟨rfl, hm.dictOf.typeIs, F.args_dict_items_1 _, _, meets_dict_items (mixKind X.prog X.w) d hs, ⟨vs, hm.dictOf⟩, fin⟩)
/-! ### loops over enumerate, zip, the items of a dict that nobody else holds -/
section
variable {K : PySem.W.Frag} {a b : Addr} {xs zs : List V} {g : TG} {tb : TS} {D : Ends} {σ : L2.St} {H : Hp}
theorem for_enum (Pv : Nat → L2.St → Hp → Prop) (h0 : Pv 0 σ H) (hl : ∀ i σ H, Pv i σ H → SqL K H a xs)
    (hs : ∀ i x T σ H H', xs[i]? = some x → Pv i σ H → H T = none → Same H H' → H' T = some (.tup [.int (i : Nat), x]) → g (.ref T) σ H' fun σ2 H2 => tb { D with nx := Pv (i + 1), ct := Pv (i + 1), bk := D.nx } σ2 H2) (hd : ∀ σ H, Pv xs.length σ H → D.nx σ H) :
    ∃ W : Nat → Nat → L2.St → Hp → Prop, (∃ m, W 0 m σ H) ∧ ∀ i m σ H, W i m σ H →
      ((Ite K a).stop i H ∧ D.nx σ H) ∨ ((Ite K a).go i H ∧ ∃ N : L2.St → Hp → Prop, (∀ σ' H', N σ' H' → ∃ m', m' < m ∧ W (i + 1) m' σ' H') ∧ ∀ v H', (Ite K a).yld i H v H' → g v σ H' fun σ2 H2 => tb { D with nx := N, ct := N, bk := D.nx } σ2 H2) := by
  refine ⟨fun i m σ H => m = xs.length - i ∧ i ≤ xs.length ∧ Pv i σ H, ⟨xs.length, rfl, Nat.zero_le _, h0⟩, ?_⟩
  rintro i m σ H ⟨rfl, hi, p⟩
  have q := hl i σ H p
  by_cases hlt : i < xs.length
  · refine .inr ⟨⟨xs, xs[i], q, by simp [hlt]⟩, Pv (i + 1), fun σ' H' p' => ⟨xs.length - (i + 1), by omega, rfl, hlt, p'⟩, fun v H' y => ?_⟩
    obtain ⟨T, x, rfl, nT, rfl, hx⟩ := y
    exact hs i x T σ H _ (hx xs q) p nT (Same.upd0 nT) upd_same
  · have ei : i = xs.length := by omega
    subst ei
    exact .inl ⟨⟨xs, q, Nat.le_refl _⟩, hd σ H p⟩
theorem for_zip (hlen : xs.length = zs.length) (Pv : Nat → L2.St → Hp → Prop) (h0 : Pv 0 σ H) (hl : ∀ i σ H, Pv i σ H → SqL K H a xs ∧ SqL K H b zs)
    (hs : ∀ i x z T σ H H', xs[i]? = some x → zs[i]? = some z → Pv i σ H → H T = none → Same H H' → H' T = some (.tup [x, z]) → g (.ref T) σ H' fun σ2 H2 => tb { D with nx := Pv (i + 1), ct := Pv (i + 1), bk := D.nx } σ2 H2) (hd : ∀ σ H, Pv xs.length σ H → D.nx σ H) :
    ∃ W : Nat → Nat → L2.St → Hp → Prop, (∃ m, W 0 m σ H) ∧ ∀ i m σ H, W i m σ H →
      ((Itz K a b).stop i H ∧ D.nx σ H) ∨ ((Itz K a b).go i H ∧ ∃ N : L2.St → Hp → Prop, (∀ σ' H', N σ' H' → ∃ m', m' < m ∧ W (i + 1) m' σ' H') ∧ ∀ v H', (Itz K a b).yld i H v H' → g v σ H' fun σ2 H2 => tb { D with nx := N, ct := N, bk := D.nx } σ2 H2) := by
  refine ⟨fun i m σ H => m = xs.length - i ∧ i ≤ xs.length ∧ Pv i σ H, ⟨xs.length, rfl, Nat.zero_le _, h0⟩, ?_⟩
  rintro i m σ H ⟨rfl, hi, p⟩
  obtain ⟨q1, q2⟩ := hl i σ H p
  by_cases hlt : i < xs.length
  · have hlt2 : i < zs.length := by omega
    refine .inr ⟨⟨xs, zs, xs[i], zs[i], q1, q2, by simp [hlt], by simp [hlt2]⟩, Pv (i + 1), fun σ' H' p' => ⟨xs.length - (i + 1), by omega, rfl, hlt, p'⟩, fun v H' y => ?_⟩
    obtain ⟨T, x, z, rfl, nT, rfl, hx, hz⟩ := y
    exact hs i x z T σ H _ (hx xs q1) (hz zs q2) p nT (Same.upd0 nT) upd_same
  · have ei : i = xs.length := by omega
    subst ei
    exact .inl ⟨⟨xs, zs, q1, q2, .inl (Nat.le_refl _)⟩, hd σ H p⟩
theorem for_items {d : Addr} {o : Obj} {kvs : List (Key × V)} (Pv : Nat → L2.St → Hp → Prop) (h0 : Pv 0 σ H) (hl : ∀ i σ H, Pv i σ H → H d = some (.frz o (.dK kvs)))
    (hs : ∀ i k v T σ H H', kvs[i]? = some (k, v) → Pv i σ H → H T = none → Same H H' → H' T = some (.tup [kV k, v]) → g (.ref T) σ H' fun σ2 H2 => tb { D with nx := Pv (i + 1), ct := Pv (i + 1), bk := D.nx } σ2 H2) (hd : ∀ σ H, Pv kvs.length σ H → D.nx σ H) :
    ∃ W : Nat → Nat → L2.St → Hp → Prop, (∃ m, W 0 m σ H) ∧ ∀ i m σ H, W i m σ H →
      ((Iti d o kvs).stop i H ∧ D.nx σ H) ∨ ((Iti d o kvs).go i H ∧ ∃ N : L2.St → Hp → Prop, (∀ σ' H', N σ' H' → ∃ m', m' < m ∧ W (i + 1) m' σ' H') ∧ ∀ v H', (Iti d o kvs).yld i H v H' → g v σ H' fun σ2 H2 => tb { D with nx := N, ct := N, bk := D.nx } σ2 H2) := by
  refine ⟨fun i m σ H => m = kvs.length - i ∧ i ≤ kvs.length ∧ Pv i σ H, ⟨kvs.length, rfl, Nat.zero_le _, h0⟩, ?_⟩
  rintro i m σ H ⟨rfl, hi, p⟩
  have q := hl i σ H p
  by_cases hlt : i < kvs.length
  · refine .inr ⟨⟨q, hlt⟩, Pv (i + 1), fun σ' H' p' => ⟨kvs.length - (i + 1), by omega, rfl, hlt, p'⟩, fun v H' y => ?_⟩
    obtain ⟨T, k, v, hx, rfl, nT, rfl⟩ := y
    exact hs i k v T σ H _ hx p nT (Same.upd0 nT) upd_same
  · have ei : i = kvs.length := by omega
    subst ei
    exact .inl ⟨⟨q, Nat.le_refl _⟩, hd σ H p⟩
end
/-! ### data, == -/
section
variable {K : PySem.W.Frag} {H H' : Hp}
theorem Same.seqT {a : Addr} {xs : List V} (e : Same H H') (h : SqT K H a xs) : SqT K H' a xs := by
  rcases h with (h | ⟨o, h⟩) | h
  · exact .inl (.inl (e _ _ h))
  · exact .inl (.inr ⟨o, e _ _ h⟩)
  · exact .inr h
mutual
theorem dp_mono (s : Same H H') : ∀ {v : V} {d : PyData}, Dp K H v d → Dp K H' v d
  | _, _, .non => .non
  | _, _, .bl b => .bl b
  | _, _, .int i => .int i
  | _, _, .str x => .str x
  | _, _, .lst h a => .lst (s.seq h) (dpAll_mono s a)
  | _, _, .tup h a => .tup (Same.seqT s h) (dpAll_mono s a)
theorem dpAll_mono (s : Same H H') : ∀ {vs : List V} {ds : List PyData}, DpAll K H vs ds → DpAll K H' vs ds
  | _, _, .nil => .nil
  | _, _, .cons h t => .cons (dp_mono s h) (dpAll_mono s t)
end
theorem dpAll_map {α : Type} {f : α → V} {g : α → PyData} (h : ∀ x, Dp K H (f x) (g x)) : ∀ xs : List α, DpAll K H (xs.map f) (xs.map g)
  | [] => .nil
  | x :: xs => .cons (h x) (dpAll_map h xs)
theorem dp_ints {a : Addr} {ns : List Int} (h : SqL K H a (ns.map V.int)) : Dp K H (.ref a) (.list (ns.map .int)) := .lst h (dpAll_map (fun i => .int i) ns)
def optD : Option Int → PyData
  | some i => .int i
  | none => .none
theorem dp_opt : ∀ x, Dp K H (optI x) (optD x)
  | some i => .int i
  | none => .non
theorem dp_opts {a : Addr} {ns : List (Option Int)} (h : SqL K H a (ns.map optI)) : Dp K H (.ref a) (.list (ns.map optD)) := .lst h (dpAll_map dp_opt ns)
end
mutual
/-- data without truths and dicts -/
def nob : PyData → Bool
  | .none | .int _ | .str _ => true
  | .bool _ | .dict _ => false
  | .list xs | .tuple xs => nobAll xs
def nobAll : List PyData → Bool
  | [] => true
  | x :: xs => nob x && nobAll xs
end
mutual
theorem eqv_iff : ∀ {d e : PyData}, nob d = true → nob e = true → (PyData.eqv d e = true ↔ d = e)
  | .none, .none, _, _ => by simp [PyData.eqv]
  | .none, .int _, _, _ => by simp [PyData.eqv]
  | .none, .str _, _, _ => by simp [PyData.eqv]
  | .none, .list _, _, _ => by simp [PyData.eqv]
  | .none, .tuple _, _, _ => by simp [PyData.eqv]
  | .int _, .none, _, _ => by simp [PyData.eqv]
  | .int _, .int _, _, _ => by simp [PyData.eqv]
  | .int _, .str _, _, _ => by simp [PyData.eqv]
  | .int _, .list _, _, _ => by simp [PyData.eqv]
  | .int _, .tuple _, _, _ => by simp [PyData.eqv]
  | .str _, .none, _, _ => by simp [PyData.eqv]
  | .str _, .int _, _, _ => by simp [PyData.eqv]
  | .str _, .str _, _, _ => by simp [PyData.eqv]
  | .str _, .list _, _, _ => by simp [PyData.eqv]
  | .str _, .tuple _, _, _ => by simp [PyData.eqv]
  | .list _, .none, _, _ => by simp [PyData.eqv]
  | .list _, .int _, _, _ => by simp [PyData.eqv]
  | .list _, .str _, _, _ => by simp [PyData.eqv]
  | .list xs, .list ys, h1, h2 => by
    have h := eqvAll_iff (xs := xs) (ys := ys) (by simpa [nob] using h1) (by simpa [nob] using h2)
    simp only [PyData.eqv, PyData.list.injEq]; exact h
  | .list _, .tuple _, _, _ => by simp [PyData.eqv]
  | .tuple _, .none, _, _ => by simp [PyData.eqv]
  | .tuple _, .int _, _, _ => by simp [PyData.eqv]
  | .tuple _, .str _, _, _ => by simp [PyData.eqv]
  | .tuple _, .list _, _, _ => by simp [PyData.eqv]
  | .tuple xs, .tuple ys, h1, h2 => by
    have h := eqvAll_iff (xs := xs) (ys := ys) (by simpa [nob] using h1) (by simpa [nob] using h2)
    simp only [PyData.eqv, PyData.tuple.injEq]; exact h
  | .bool _, _, h, _ => by simp [nob] at h
  | .dict _, _, h, _ => by simp [nob] at h
  | .none, .bool _, _, h => by simp [nob] at h
  | .none, .dict _, _, h => by simp [nob] at h
  | .int _, .bool _, _, h => by simp [nob] at h
  | .int _, .dict _, _, h => by simp [nob] at h
  | .str _, .bool _, _, h => by simp [nob] at h
  | .str _, .dict _, _, h => by simp [nob] at h
  | .list _, .bool _, _, h => by simp [nob] at h
  | .list _, .dict _, _, h => by simp [nob] at h
  | .tuple _, .bool _, _, h => by simp [nob] at h
  | .tuple _, .dict _, _, h => by simp [nob] at h
theorem eqvAll_iff : ∀ {xs ys : List PyData}, nobAll xs = true → nobAll ys = true → (PyData.eqvAll xs ys = true ↔ xs = ys)
  | [], [], _, _ => by simp [PyData.eqvAll]
  | [], _ :: _, _, _ => by simp [PyData.eqvAll]
  | _ :: _, [], _, _ => by simp [PyData.eqvAll]
  | x :: xs, y :: ys, h1, h2 => by
    simp only [nobAll, Bool.and_eq_true] at h1 h2
    have a := eqv_iff h1.1 h2.1
    have b := eqvAll_iff h1.2 h2.2
    simp only [PyData.eqvAll, Bool.and_eq_true, List.cons.injEq]
    rw [a, b]
end
theorem eqv_dec {d e : PyData} (h1 : nob d = true) (h2 : nob e = true) {b : Bool} (h : b = true ↔ d = e) : PyData.eqv d e = b := by
  have a := eqv_iff h1 h2
  cases hb : b with
  | true => rw [hb] at h; exact a.mpr (h.mp rfl)
  | false =>
    cases he : PyData.eqv d e with
    | false => rfl
    | true => have := h.mpr (a.mp he); rw [hb] at this; cases this
theorem nobAll_map {α : Type} {g : α → PyData} (h : ∀ x, nob (g x) = true) : ∀ xs : List α, nobAll (xs.map g) = true
  | [] => by simp [nobAll]
  | x :: xs => by simp only [List.map_cons, nobAll, h x, nobAll_map h xs, Bool.and_self]
theorem canLayAll0_map {α : Type} {g : α → PyData} (h : ∀ x, (g x).canLay0 = true) : ∀ xs : List α, PyData.canLayAll0 (xs.map g) = true
  | [] => by simp [PyData.canLayAll0]
  | x :: xs => by simp only [List.map_cons, PyData.canLayAll0, h x, canLayAll0_map h xs, Bool.and_self]
theorem depthAll_map {α : Type} {g : α → PyData} {m : Nat} (h : ∀ x, (g x).depth ≤ m) : ∀ xs : List α, PyData.depthAll (xs.map g) ≤ m
  | [] => by simp [PyData.depthAll]
  | x :: xs => by
    have h1 := h x
    have h2 := depthAll_map h xs
    simp only [List.map_cons, PyData.depthAll]; omega
theorem shaped_map {α : Type} {g : α → PyData} {m : Nat} (hm : m < 64) (h1 : ∀ x, (g x).canLay0 = true) (h2 : ∀ x, (g x).depth ≤ m) (xs : List α) : SeqAt.shaped (.list (xs.map g)) = true := by
  unfold SeqAt.shaped
  rw [Bool.and_eq_true]
  refine ⟨by simp only [PyData.canLay0]; exact canLayAll0_map h1 xs, decide_eq_true ?_⟩
  have := depthAll_map h2 xs
  simp only [PyData.depth]; omega
theorem shaped_ints (ns : List Int) : SeqAt.shaped (.list (ns.map .int)) = true := shaped_map (m := 0) (by decide) (fun _ => by simp [PyData.canLay0]) (fun _ => by simp [PyData.depth]) ns
theorem shaped_opts (ns : List (Option Int)) : SeqAt.shaped (.list (ns.map optD)) = true := shaped_map (m := 0) (by decide) (fun x => by cases x <;> simp [optD, PyData.canLay0]) (fun x => by cases x <;> simp [optD, PyData.depth]) ns
theorem nob_ints (ns : List Int) : nob (.list (ns.map .int)) = true := by simp only [nob]; exact nobAll_map (fun _ => by simp [nob]) ns
theorem nob_opts (ns : List (Option Int)) : nob (.list (ns.map optD)) = true := by simp only [nob]; exact nobAll_map (fun x => by cases x <;> simp [optD, nob]) ns
theorem map_inj {α β : Type} {f : α → β} (h : ∀ a b, f a = f b → a = b) : ∀ {xs ys : List α}, xs.map f = ys.map f → xs = ys
  | [], [], _ => rfl
  | [], _ :: _, e => by simp at e
  | _ :: _, [], e => by simp at e
  | x :: xs, y :: ys, e => by
    simp only [List.map_cons, List.cons.injEq] at e
    rw [h x y e.1, map_inj h e.2]
theorem eqv_ints (ns ms : List Int) : PyData.eqv (.list (ns.map .int)) (.list (ms.map .int)) = decide (ns = ms) :=
  eqv_dec (nob_ints ns) (nob_ints ms) (by
    rw [decide_eq_true_iff]
    exact ⟨fun e => by rw [e], fun e => map_inj (fun a b h => PyData.int.inj h) (PyData.list.inj e)⟩)
theorem eqv_opts (ns ms : List (Option Int)) : PyData.eqv (.list (ns.map optD)) (.list (ms.map optD)) = decide (ns = ms) :=
  eqv_dec (nob_opts ns) (nob_opts ms) (by
    rw [decide_eq_true_iff]
    exact ⟨fun e => by rw [e], fun e => map_inj (fun a b h => by cases a <;> cases b <;> simp_all [optD]) (PyData.list.inj e)⟩)
section
variable {X : Cx}
/-- two lists of ints -/
def rEqIs (K : PySem.W.Frag) : R2 := fun x y H Q => ∃ (a b : Addr) (ns ms : List Int), x = .ref a ∧ y = .ref b ∧ SqL K H a (ns.map V.int) ∧ SqL K H b (ms.map V.int) ∧ Q (.bl (decide (ns = ms))) H
def rNeIs (K : PySem.W.Frag) : R2 := fun x y H Q => ∃ (a b : Addr) (ns ms : List Int), x = .ref a ∧ y = .ref b ∧ SqL K H a (ns.map V.int) ∧ SqL K H b (ms.map V.int) ∧ Q (.bl (!decide (ns = ms))) H
theorem op_eqIs (hu : X.A.units + 64 < cLine) : OpR X (compareOp .Eq) (rEqIs X.K) := opR_imp (op_eqD hu) fun _ _ _ _ ⟨a, b, ns, ms, e1, e2, h1, h2, q⟩ => by
  subst e1 e2
  exact ⟨_, _, dp_ints h1, dp_ints h2, shaped_ints ns, shaped_ints ms, by rw [eqv_ints]; exact q⟩
theorem op_neIs (hu : X.A.units + 64 < cLine) : OpR X (compareOp .NotEq) (rNeIs X.K) := opR_imp (op_neD hu) fun _ _ _ _ ⟨a, b, ns, ms, e1, e2, h1, h2, q⟩ => by
  subst e1 e2
  exact ⟨_, _, dp_ints h1, dp_ints h2, shaped_ints ns, shaped_ints ms, by rw [eqv_ints]; exact q⟩
end
/-! ### rules that hang on the written part, the part by its name (a comprehension's block has the same one) -/
section
variable {X : Cx} {K : PySem.W.Frag}
theorem op_notInK (h : X.K = K) : OpR X (compareOp .NotIn) (rIn K true) := h ▸ op_notIn_seq
theorem op_inK (h : X.K = K) : OpR X (compareOp .In) (rIn K false) := h ▸ op_in_seq
theorem ix_listK (h : X.K = K) : IxR X (rIxL K) := h ▸ ix_list
theorem ix_tupK (h : X.K = K) : IxR X (rIxT K) := h ▸ ix_tup
theorem ix_seqK (h : X.K = K) : IxR X (rIx K) := h ▸ ix_seq
theorem op_catK (h : X.K = K) : OpR X (binaryOp .Add) (rCatA K) := h ▸ op_catA
theorem sl_listK (h : X.K = K) : SlR X (rSlA K) := h ▸ sl_listA
theorem op_eqDK (hu : X.A.units + 64 < cLine) (h : X.K = K) : OpR X (compareOp .Eq) (rEqD K) := h ▸ op_eqD hu
theorem op_neDK (hu : X.A.units + 64 < cLine) (h : X.K = K) : OpR X (compareOp .NotEq) (rNeD K) := h ▸ op_neD hu
theorem units65 {k : Nat} {A : Around} (r : Room k A) : A.units + 65 < cLine := by have := r.un; omega
theorem op_inDK (hu : X.A.units + 65 < cLine) (h : X.K = K) : OpR X (compareOp .In) (rInD K) := h ▸ op_inD hu
theorem op_notInDK (hu : X.A.units + 65 < cLine) (h : X.K = K) : OpR X (compareOp .NotIn) (rNotInD K) := h ▸ op_notInD hu
theorem op_eqIsK (hu : X.A.units + 64 < cLine) (h : X.K = K) : OpR X (compareOp .Eq) (rEqIs K) := h ▸ op_eqIs hu
theorem op_neIsK (hu : X.A.units + 64 < cLine) (h : X.K = K) : OpR X (compareOp .NotEq) (rNeIs K) := h ▸ op_neIs hu
theorem call_isiK (h : X.K = K) : CallR X (.builtin "isinstance") (rIsi K) := h ▸ call_isi
theorem call_isiTK (h : X.K = K) : CallR X (.builtin "isinstance") (rIsiT K) := h ▸ call_isiT
def rLen (K : PySem.W.Frag) : List V → Hp → VK → Prop := fun xs H Q => ∃ x n, xs = [x] ∧ LenV K x H n ∧ Q (.int n) H
theorem call_lenK (h : X.K = K) : CallR X (.builtin "len") (rLen K) := h ▸ call_len
theorem cr_sumK (hc : X.calm = true) (h : X.K = K) : CallR X (.builtin "sum") (rSum K) := h ▸ cr_sum hc
theorem cr_maxK (hc : X.calm = true) (h : X.K = K) : CallR X (.builtin "max") (rMax K) := h ▸ cr_max hc
theorem cr_minK (hc : X.calm = true) (h : X.K = K) : CallR X (.builtin "min") (rMin K) := h ▸ cr_min hc
theorem cr_anyK (hc : X.calm = true) (h : X.K = K) : CallR X (.builtin "any") (rAny K) := h ▸ cr_any hc
theorem cr_allK (hc : X.calm = true) (h : X.K = K) : CallR X (.builtin "all") (rAll K) := h ▸ cr_all hc
theorem call_listK (h : X.K = K) : CallR X (.type "list") (rListA K) := h ▸ call_listA
theorem call_tupLK (h : X.K = K) : CallR X (.type "tuple") (rTupLA K) := h ▸ call_tupLA
theorem pe_fldK {e : Expr} {f : Str} {pos : Pos} {ta : TE} (h : X.K = K) (he : PE X e ta) (hb : attributeBase e f X.env (eval e X.env) = eval e X.env) : PE X (.Attribute e f pos) (tFld K ta f) := h ▸ pe_fld he hb
theorem pi_listK {tg l : Expr} {tl : TE} (h : X.K = K) (hl : PE X l tl) : PI X tg l (iList K tl) := h ▸ pi_list hl
theorem pi_tupK {tg l : Expr} {tl : TE} (h : X.K = K) (hl : PE X l tl) : PI X tg l (iTup K tl) := h ▸ pi_tup hl
theorem pi_enumK {e : Expr} {ta : TA} {p pos tpos : Pos} {elts : List Expr} {kk : Nat} (h : X.K = K) (hg : Gl X "enumerate") (hm : X.mg "enumerate" = none) (ha : PA X [e] ta) (hs : starEach [e] X.env = [(false, eval e X.env)] := by rfl) :
    PI X (.Tuple elts kk tpos) (.Call (.Name "enumerate" p) [e] [] pos) (iEnum K ta) := h ▸ pi_enum hg hm ha hs
theorem pi_zipK {e e2 : Expr} {ta : TA} {p pos tpos : Pos} {elts : List Expr} {kk : Nat} (h : X.K = K) (hg : Gl X "zip") (hm : X.mg "zip" = none) (ha : PA X [e, e2] ta)
    (hs : starEach [e, e2] X.env = (false, eval e X.env) :: starEach [e2] X.env := by rfl) (hpl : (backTo pos (starEach [e2] X.env)).any (·.1) = false := by rfl) :
    PI X (.Tuple elts kk tpos) (.Call (.Name "zip" p) [e, e2] [] pos) (iZip K ta) := h ▸ pi_zip hg hm ha hs hpl
end
/-- a statement with what comes behind it by a name: M holds at its end -/
theorem seq_key {t u : TS} {D : Ends} {σ : L2.St} {H : Hp} (M : L2.St → Hp → Prop) (h2 : ∀ σ H, M σ H → u D σ H) (h1 : ∀ N : L2.St → Hp → Prop, (∀ σ H, M σ H → N σ H) → t { D with nx := N } σ H) : tSeq t u D σ H := h1 _ h2
theorem isIf {a : TT} {b c d : TS} {D : Ends} {σ : L2.St} {H : Hp} (h : tSeq (tIfS a b c) d D σ H) : tSeq (tIfS a b c) d D σ H := h
theorem iteF' {c : Bool} {A B : Prop} (hc : c = false) (h : B) : if c = true then A else B := by
  subst hc; exact iteF h
theorem iteT' {c : Bool} {A B : Prop} (hc : c = true) (h : A) : if c = true then A else B := by
  subst hc; exact iteT h
theorem Dr.seqT {K : PySem.W.Frag} {H H' : Hp} {a b : Addr} {xs : List V} (e : Dr a H H') (n : b ≠ a) (h : SqT K H b xs) : SqT K H' b xs := by
  rcases h with (h | ⟨o, h⟩) | h
  · exact .inl (.inl (e.b _ _ n h))
  · exact .inl (.inr ⟨o, e.b _ _ n h⟩)
  · exact .inr h
theorem int_inj_dec {i j : Int} : decide (V.int i = V.int j) = decide (i = j) := decide_eq_decide.mpr ⟨V.int.inj, fun e => e ▸ rfl⟩
/-- an item of a short written list -/
theorem pick2 {P : V → Prop} {a b : V} {n : Int} (h0 : 0 ≤ n) (h1 : n < 2) (ha : P a) (hb : P b) : ∃ x, atI [a, b] n = some x ∧ P x := by
  have : n = 0 ∨ n = 1 := by omega
  rcases this with rfl | rfl
  · exact ⟨a, rfl, ha⟩
  · exact ⟨b, rfl, hb⟩
theorem pick3 {P : V → Prop} {a b c : V} {n : Int} (h0 : 0 ≤ n) (h1 : n < 3) (ha : P a) (hb : P b) (hc : P c) : ∃ x, atI [a, b, c] n = some x ∧ P x := by
  have : n = 0 ∨ n = 1 ∨ n = 2 := by omega
  rcases this with rfl | rfl | rfl
  · exact ⟨a, rfl, ha⟩
  · exact ⟨b, rfl, hb⟩
  · exact ⟨c, rfl, hc⟩
theorem pick4 {P : V → Prop} {a b c d : V} {n : Int} (h0 : 0 ≤ n) (h1 : n < 4) (ha : P a) (hb : P b) (hc : P c) (hd : P d) : ∃ x, atI [a, b, c, d] n = some x ∧ P x := by
  have : n = 0 ∨ n = 1 ∨ n = 2 ∨ n = 3 := by omega
  rcases this with rfl | rfl | rfl | rfl
  · exact ⟨a, rfl, ha⟩
  · exact ⟨b, rfl, hb⟩
  · exact ⟨c, rfl, hc⟩
  · exact ⟨d, rfl, hd⟩
theorem pick5 {P : V → Prop} {a b c d e : V} {n : Int} (h0 : 0 ≤ n) (h1 : n < 5) (ha : P a) (hb : P b) (hc : P c) (hd : P d) (he : P e) : ∃ x, atI [a, b, c, d, e] n = some x ∧ P x := by
  have : n = 0 ∨ n = 1 ∨ n = 2 ∨ n = 3 ∨ n = 4 := by omega
  rcases this with rfl | rfl | rfl | rfl | rfl
  · exact ⟨a, rfl, ha⟩
  · exact ⟨b, rfl, hb⟩
  · exact ⟨c, rfl, hc⟩
  · exact ⟨d, rfl, hd⟩
  · exact ⟨e, rfl, he⟩
theorem pick6 {P : V → Prop} {a b c d e f : V} {n : Int} (h0 : 0 ≤ n) (h1 : n < 6) (ha : P a) (hb : P b) (hc : P c) (hd : P d) (he : P e) (hf : P f) : ∃ x, atI [a, b, c, d, e, f] n = some x ∧ P x := by
  have : n = 0 ∨ n = 1 ∨ n = 2 ∨ n = 3 ∨ n = 4 ∨ n = 5 := by omega
  rcases this with rfl | rfl | rfl | rfl | rfl | rfl
  · exact ⟨a, rfl, ha⟩
  · exact ⟨b, rfl, hb⟩
  · exact ⟨c, rfl, hc⟩
  · exact ⟨d, rfl, hd⟩
  · exact ⟨e, rfl, he⟩
  · exact ⟨f, rfl, hf⟩
/-- an int within bounds -/
def InR (lo hi : Int) (x : V) : Prop := ∃ z, x = .int z ∧ lo ≤ z ∧ z < hi
/-! ### isinstance of plain things -/
section
variable {X : Cx}
def rIs (T : String) (ans : V → String → Bool) : List V → Hp → VK → Prop := fun xs H Q => ∃ x t, xs = [x, .ty T] ∧ Ty7 H x t ∧ Q (.bl (ans x t)) H
theorem call_isTy (T : String) (ans : V → String → Bool) (h : ∀ H x t, Ty7 H x t → kitB t T = some (ans x t)) : CallR X (.builtin "isinstance") (rIs T ans) :=
  callR_imp call_isi fun _ H Q ⟨x, t, e, ht, q⟩ => ⟨x, _, _, _, _, e, .ty _, ht.tx, kit_ty (h H x t ht), q⟩
theorem is_list : CallR X (.builtin "isinstance") (rIs "list" fun _ t => decide (t = "list")) := call_isTy _ _ fun _ _ _ h => h.kl
theorem is_tuple : CallR X (.builtin "isinstance") (rIs "tuple" fun _ t => decide (t = "tuple")) := call_isTy _ _ fun _ _ _ h => h.kt
theorem is_str : CallR X (.builtin "isinstance") (rIs "str" fun _ t => decide (t = "str")) := call_isTy _ _ fun _ _ _ h => h.ks
theorem is_int : CallR X (.builtin "isinstance") (rIs "int" fun x _ => isI x || isB x) := call_isTy _ _ fun _ _ _ h => h.ki
theorem is_bool : CallR X (.builtin "isinstance") (rIs "bool" fun x _ => isB x) := call_isTy _ _ fun _ _ _ h => h.kb
end
/-! ### comprehensions, shorter: one item for each, those that a test keeps, items that draw -/
section
variable {K : PySem.W.Frag} {a b s : Addr} {g : TG} {tt : TT} {te : TE} {vs : List Nat} {σ : L2.St} {H1 : Hp} {D : Addr} {Qd : Hp → Prop} {α β : Type}
abbrev LcG (I : It) (g : TG) (tt : TT) (te : TE) (vs : List Nat) (σ : L2.St) (H1 : Hp) (D : Addr) (Qd : Hp → Prop) : Prop :=
    ∃ W : Nat → Nat → Hp → Prop, (∃ m, W 0 m (upd H1 D (.lst []))) ∧ ∀ i m H, W i m H →
      (I.stop i H ∧ Qd H) ∨ (I.go i H ∧ ∃ Nx : Hp → Prop, (∀ H', Nx H' → ∃ m', m' < m ∧ W (i + 1) m' H') ∧ ∀ x H', I.yld i H x H' → g x (wipe σ vs) H' fun σ2 H2 => wipe σ2 vs = wipe σ vs ∧ tt σ2 H2 fun b H3 =>
        if b = true then te σ2 H3 fun y H4 => ∃ acc, H4 D = some (.lst acc) ∧ acc.length < sizeLine ∧ Nx (upd H4 D (.lst (acc ++ [y]))) else Nx H3)
def ysF (f : α → V) (q : α → Bool) (xs : List α) (i : Nat) : Option V := xs[i]?.bind fun x => if q x = true then some (f x) else none
theorem ysF_all (f : α → V) (q : α → Bool) (xs : List α) : lcYs xs.length (ysF f q xs) = (xs.filter q).map f := lcYs_filter q f xs _ fun i x h => by unfold ysF; rw [h]; rfl
theorem ysF_one (f : α → V) (xs : List α) : lcYs xs.length (ysF f (fun _ => true) xs) = xs.map f := by
  rw [ysF_all, List.filter_eq_self.mpr fun _ _ => rfl]
theorem of_map {ρ : α → V} {ys : List α} {i : Nat} {x : V} (h : (ys.map ρ)[i]? = some x) : ∃ y, ys[i]? = some y ∧ x = ρ y := by
  rw [List.getElem?_map] at h
  cases e : ys[i]? with
  | none => rw [e] at h; cases h
  | some z => rw [e] at h; exact ⟨z, rfl, (Option.some.inj h).symm⟩
theorem lcLf (ρ f : α → V) (q : α → Bool) {ys : List α} (hD : H1 D = none) (hx : SqL K H1 a (ys.map ρ)) (hn : ys.length ≤ 100000)
    (hs : ∀ (i : Nat) (y : α) (H : Hp) (Kt : V → Hp → Prop) (Kf : Hp → Prop), ys[i]? = some y → Same H1 H → (q y = true → ∀ H4, Same H H4 → Kt (f y) H4) → (q y = false → ∀ H4, Same H H4 → Kf H4) → LcT g tt te vs σ (ρ y) H Kt Kf)
    (hd : ∀ H, Same H1 H → H D = some (.lst ((ys.filter q).map f)) → Qd H) : LcG (Itl K a) g tt te vs σ H1 D Qd :=
  lcLq (ysF f q ys) hD hx (by rw [List.length_map]; exact hn) (fun i x H Kt Kf hxi s qq => by
    obtain ⟨y, hy, rfl⟩ := of_map hxi
    exact hs i y H Kt Kf hy s (fun e H4 s4 => qq.yes _ _ s4 (by unfold ysF; rw [hy]; exact if_pos e)) (fun e H4 s4 => qq.no _ s4 (by unfold ysF; rw [hy]; exact if_neg (by rw [e]; simp))))
    (fun H s h => hd H s (by rw [h, List.length_map, ysF_all]))
theorem lcLm (ρ f : α → V) {ys : List α} (hD : H1 D = none) (hx : SqL K H1 a (ys.map ρ)) (hn : ys.length ≤ 100000)
    (hs : ∀ (i : Nat) (y : α) (H : Hp) (Kt : V → Hp → Prop) (Kf : Hp → Prop), ys[i]? = some y → Same H1 H → (∀ H4, Same H H4 → Kt (f y) H4) → LcT g tt te vs σ (ρ y) H Kt Kf)
    (hd : ∀ H, Same H1 H → H D = some (.lst (ys.map f)) → Qd H) : LcG (Itl K a) g tt te vs σ H1 D Qd :=
  lcLf ρ f (fun _ => true) hD hx hn (fun i y H Kt Kf hy s h _ => hs i y H Kt Kf hy s (h rfl)) (fun H s h => hd H s (by rw [h, List.filter_eq_self.mpr fun _ _ => rfl]))
theorem lcTf (ρ f : α → V) (q : α → Bool) {ys : List α} (hD : H1 D = none) (hx : SqT K H1 a (ys.map ρ)) (hn : ys.length ≤ 100000)
    (hs : ∀ (i : Nat) (y : α) (H : Hp) (Kt : V → Hp → Prop) (Kf : Hp → Prop), ys[i]? = some y → Same H1 H → (q y = true → ∀ H4, Same H H4 → Kt (f y) H4) → (q y = false → ∀ H4, Same H H4 → Kf H4) → LcT g tt te vs σ (ρ y) H Kt Kf)
    (hd : ∀ H, Same H1 H → H D = some (.lst ((ys.filter q).map f)) → Qd H) : LcG (Itt K a) g tt te vs σ H1 D Qd :=
  lcTq (ysF f q ys) hD hx (by rw [List.length_map]; exact hn) (fun i x H Kt Kf hxi s qq => by
    obtain ⟨y, hy, rfl⟩ := of_map hxi
    exact hs i y H Kt Kf hy s (fun e H4 s4 => qq.yes _ _ s4 (by unfold ysF; rw [hy]; exact if_pos e)) (fun e H4 s4 => qq.no _ s4 (by unfold ysF; rw [hy]; exact if_neg (by rw [e]; simp))))
    (fun H s h => hd H s (by rw [h, List.length_map, ysF_all]))
theorem lcTm (ρ f : α → V) {ys : List α} (hD : H1 D = none) (hx : SqT K H1 a (ys.map ρ)) (hn : ys.length ≤ 100000)
    (hs : ∀ (i : Nat) (y : α) (H : Hp) (Kt : V → Hp → Prop) (Kf : Hp → Prop), ys[i]? = some y → Same H1 H → (∀ H4, Same H H4 → Kt (f y) H4) → LcT g tt te vs σ (ρ y) H Kt Kf)
    (hd : ∀ H, Same H1 H → H D = some (.lst (ys.map f)) → Qd H) : LcG (Itt K a) g tt te vs σ H1 D Qd :=
  lcTf ρ f (fun _ => true) hD hx hn (fun i y H Kt Kf hy s h _ => hs i y H Kt Kf hy s (h rfl)) (fun H s h => hd H s (by rw [h, List.filter_eq_self.mpr fun _ _ => rfl]))
theorem range_get {n i : Nat} (h : i < n) : (List.range n)[i]? = some i := List.getElem?_range h
theorem lcRf {lo : Int} {n : Nat} (f : Nat → V) (q : Nat → Bool) (hD : H1 D = none) (hn : n ≤ 100000)
    (hs : ∀ (i : Nat) (H : Hp) (Kt : V → Hp → Prop) (Kf : Hp → Prop), i < n → Same H1 H → (q i = true → ∀ H4, Same H H4 → Kt (f i) H4) → (q i = false → ∀ H4, Same H H4 → Kf H4) → LcT g tt te vs σ (.int (lo + i)) H Kt Kf)
    (hd : ∀ H, Same H1 H → H D = some (.lst (((List.range n).filter q).map f)) → Qd H) : LcG (Itr lo n) g tt te vs σ H1 D Qd :=
  lcRq (ysF f q (List.range n)) hD hn (fun i H Kt Kf hi s qq =>
    hs i H Kt Kf hi s (fun e H4 s4 => qq.yes _ _ s4 (by unfold ysF; rw [range_get hi]; exact if_pos e)) (fun e H4 s4 => qq.no _ s4 (by unfold ysF; rw [range_get hi]; exact if_neg (by rw [e]; simp))))
    (fun H s h => hd H s (by have := ysF_all f q (List.range n); rw [List.length_range] at this; rw [h, this]))
theorem lcRm {lo : Int} {n : Nat} (f : Nat → V) (hD : H1 D = none) (hn : n ≤ 100000)
    (hs : ∀ (i : Nat) (H : Hp) (Kt : V → Hp → Prop) (Kf : Hp → Prop), i < n → Same H1 H → (∀ H4, Same H H4 → Kt (f i) H4) → LcT g tt te vs σ (.int (lo + i)) H Kt Kf)
    (hd : ∀ H, Same H1 H → H D = some (.lst ((List.range n).map f)) → Qd H) : LcG (Itr lo n) g tt te vs σ H1 D Qd :=
  lcRf f (fun _ => true) hD hn (fun i H Kt Kf hi s h _ => hs i H Kt Kf hi s (h rfl)) (fun H s h => hd H s (by rw [h, List.filter_eq_self.mpr fun _ _ => rfl]))
/-- items that draw from the source at s -/
theorem lcRd {lo : Int} {n : Nat} (ρ : β → V) (R : Nat → β → Prop) (h0 : Src H1 s) (hD : H1 D = none) (hn : n ≤ 100000)
    (hs : ∀ (i : Nat) (H : Hp) (Kt : V → Hp → Prop) (Kf : Hp → Prop), i < n → Dr s H1 H → (∀ b H4, Dr s H H4 → R i b → Kt (ρ b) H4) → LcT g tt te vs σ (.int (lo + i)) H Kt Kf)
    (hd : ∀ (us : List β) (H : Hp), Dr s H1 H → us.length = n → (∀ (i : Nat) (b : β), us[i]? = some b → R i b) → D ≠ s → H D = some (.lst (us.map ρ)) → Qd H) : LcG (Itr lo n) g tt te vs σ H1 D Qd :=
  have nD : D ≠ s := h0.ne hD
  lcR (fun i acc H' => Dr s H1 H' ∧ ∃ us : List β, acc = us.map ρ ∧ us.length = i ∧ ∀ (i : Nat) (b : β), us[i]? = some b → R i b)
    (fun H' s' _ => ⟨Dr.of h0 s', [], rfl, rfl, fun i b h => by cases h⟩) hD (fun i acc H' Kt Kf hi p e kk => by
      obtain ⟨dp, us, rfl, hul, hub⟩ := p
      exact hs i H' Kt Kf hi dp fun b H4 d4 hR => kk.yes _ _ (d4.app nD e) (Nat.lt_of_lt_of_le (show _ < 100001 by rw [List.length_map]; omega) (by decide)) fun H5 b5 g5 => ⟨Dr.mut (dp.trans d4) b5 hD nD.symm, us ++ [b], by rw [List.map_append]; rfl, by rw [List.length_append, hul]; rfl, fun j c hc => by
        by_cases hj : j < us.length
        · rw [List.getElem?_append_left hj] at hc; exact hub j c hc
        · have hj2 : j = i := by
            have := (List.getElem?_eq_some_iff.mp hc).1
            rw [List.length_append] at this
            simp at this; omega
          subst hj2
          rw [← hul, List.getElem?_concat_length] at hc
          cases hc; exact hR⟩)
    (fun acc H' p e => by
      obtain ⟨dp, us, rfl, hul, hub⟩ := p
      exact hd us H' dp hul hub nD e)
theorem lcLd (ρ0 : α → V) (ρ : β → V) (R : Nat → β → Prop) {ys : List α} (h0 : Src H1 s) (hD : H1 D = none) (na : a ≠ s) (hx : SqL K H1 a (ys.map ρ0)) (hn : ys.length ≤ 100000)
    (hs : ∀ (i : Nat) (y : α) (H : Hp) (Kt : V → Hp → Prop) (Kf : Hp → Prop), ys[i]? = some y → Dr s H1 H → (∀ b H4, Dr s H H4 → R i b → Kt (ρ b) H4) → LcT g tt te vs σ (ρ0 y) H Kt Kf)
    (hd : ∀ (us : List β) (H : Hp), Dr s H1 H → us.length = ys.length → (∀ (i : Nat) (b : β), us[i]? = some b → R i b) → D ≠ s → H D = some (.lst (us.map ρ)) → Qd H) : LcG (Itl K a) g tt te vs σ H1 D Qd :=
  have nD : D ≠ s := h0.ne hD
  lcL (fun i acc H' => Dr s H1 H' ∧ ∃ us : List β, acc = us.map ρ ∧ us.length = i ∧ ∀ (i : Nat) (b : β), us[i]? = some b → R i b)
    (fun H' s' _ => ⟨Dr.of h0 s', [], rfl, rfl, fun i b h => by cases h⟩) hD (fun i acc H' p => p.1.seq na hx) (fun i x acc H' Kt Kf hxi p e kk => by
      obtain ⟨y, hy, rfl⟩ := of_map hxi
      have hi := (List.getElem?_eq_some_iff.mp hy).1
      obtain ⟨dp, us, rfl, hul, hub⟩ := p
      exact hs i y H' Kt Kf hy dp fun b H4 d4 hR => kk.yes _ _ (d4.app nD e) (Nat.lt_of_lt_of_le (show _ < 100001 by rw [List.length_map]; omega) (by decide)) fun H5 b5 g5 => ⟨Dr.mut (dp.trans d4) b5 hD nD.symm, us ++ [b], by rw [List.map_append]; rfl, by rw [List.length_append, hul]; rfl, fun j c hc => by
        by_cases hj : j < us.length
        · rw [List.getElem?_append_left hj] at hc; exact hub j c hc
        · have hj2 : j = i := by
            have := (List.getElem?_eq_some_iff.mp hc).1
            rw [List.length_append] at this
            simp at this; omega
          subst hj2
          rw [← hul, List.getElem?_concat_length] at hc
          cases hc; exact hR⟩)
    (fun acc H' p e => by
      obtain ⟨dp, us, rfl, hul, hub⟩ := p
      rw [List.length_map] at hul
      exact hd us H' dp hul hub nD e)
/-- items that are new objects: R holds of each, as long as nothing but the list itself changes -/
theorem lcLs (ρ0 : α → V) {ys : List α} (R : Nat → V → Hp → Prop) (mono : ∀ i v H H' acc, R i v H → H D = some (.lst acc) → But D H H' → R i v H') (hD : H1 D = none) (hx : SqL K H1 a (ys.map ρ0)) (hn : ys.length ≤ 100000)
    (hs : ∀ (i : Nat) (y : α) (H : Hp) (Kt : V → Hp → Prop) (Kf : Hp → Prop) (acc : List V), ys[i]? = some y → Same H1 H → H D = some (.lst acc) → (∀ v H4, Same H H4 → R i v H4 → Kt v H4) → LcT g tt te vs σ (ρ0 y) H Kt Kf)
    (hd : ∀ (us : List V) (H : Hp), Same H1 H → us.length = ys.length → (∀ (i : Nat) (b : V), us[i]? = some b → R i b H) → H D = some (.lst us) → Qd H) : LcG (Itl K a) g tt te vs σ H1 D Qd :=
  lcL (fun i acc H' => Same H1 H' ∧ acc.length = i ∧ ∀ (i : Nat) (b : V), acc[i]? = some b → R i b H')
    (fun H' s' _ => ⟨s', rfl, fun i b h => by cases h⟩) hD (fun i acc H' p => p.1.seq hx) (fun i x acc H' Kt Kf hxi p e kk => by
      obtain ⟨y, hy, rfl⟩ := of_map hxi
      have hi := (List.getElem?_eq_some_iff.mp hy).1
      obtain ⟨dp, hul, hub⟩ := p
      exact hs i y H' Kt Kf acc hy dp e fun b H4 s4 hR => kk.yes _ _ (s4 _ _ e) (Nat.lt_of_lt_of_le (show _ < 100001 by omega) (by decide)) fun H5 b5 g5 => ⟨Same.mut' (dp.trans s4) b5 hD, by rw [List.length_append, hul]; rfl, fun j c hc => by
        by_cases hj : j < acc.length
        · rw [List.getElem?_append_left hj] at hc
          exact mono _ _ _ _ _ (mono _ _ _ _ _ (hub j c hc) e (Same.but s4)) (s4 _ _ e) b5
        · have hj2 : j = i := by
            have := (List.getElem?_eq_some_iff.mp hc).1
            rw [List.length_append] at this
            simp at this; omega
          subst hj2
          rw [← hul, List.getElem?_concat_length] at hc
          cases hc; exact mono _ _ _ _ _ hR (s4 _ _ e) b5⟩)
    (fun acc H' p e => by
      obtain ⟨dp, hul, hub⟩ := p
      rw [List.length_map] at hul
      exact hd acc H' dp hul hub e)
/-- items that are drawn and are new objects -/
theorem lcRo {lo : Int} {n : Nat} (R : Nat → V → Hp → Prop) (monoD : ∀ i v H H' acc, R i v H → H D = some (.lst acc) → But D H H' → R i v H') (monoS : ∀ i v H H', R i v H → Src H s → Dr s H H' → R i v H') (h0 : Src H1 s) (hD : H1 D = none) (hn : n ≤ 100000)
    (hs : ∀ (i : Nat) (H : Hp) (Kt : V → Hp → Prop) (Kf : Hp → Prop) (acc : List V), i < n → Dr s H1 H → H D = some (.lst acc) → (∀ v H4, Dr s H H4 → R i v H4 → Kt v H4) → LcT g tt te vs σ (.int (lo + i)) H Kt Kf)
    (hd : ∀ (us : List V) (H : Hp), Dr s H1 H → us.length = n → (∀ (i : Nat) (b : V), us[i]? = some b → R i b H) → D ≠ s → H D = some (.lst us) → Qd H) : LcG (Itr lo n) g tt te vs σ H1 D Qd :=
  have nD : D ≠ s := h0.ne hD
  lcR (fun i acc H' => Dr s H1 H' ∧ acc.length = i ∧ ∀ (i : Nat) (b : V), acc[i]? = some b → R i b H')
    (fun H' s' _ => ⟨Dr.of h0 s', rfl, fun i b h => by cases h⟩) hD (fun i acc H' Kt Kf hi p e kk => by
      obtain ⟨dp, hul, hub⟩ := p
      exact hs i H' Kt Kf acc hi dp e fun b H4 d4 hR => kk.yes _ _ (d4.app nD e) (Nat.lt_of_lt_of_le (show _ < 100001 by omega) (by decide)) fun H5 b5 g5 => ⟨Dr.mut (dp.trans d4) b5 hD nD.symm, by rw [List.length_append, hul]; rfl, fun j c hc => by
        by_cases hj : j < acc.length
        · rw [List.getElem?_append_left hj] at hc
          exact monoD _ _ _ _ _ (monoS _ _ _ _ (hub j c hc) dp.s d4) (d4.app nD e) b5
        · have hj2 : j = i := by
            have := (List.getElem?_eq_some_iff.mp hc).1
            rw [List.length_append] at this
            simp at this; omega
          subst hj2
          rw [← hul, List.getElem?_concat_length] at hc
          cases hc; exact monoD _ _ _ _ _ hR (d4.app nD e) b5⟩)
    (fun acc H' p e => by
      obtain ⟨dp, hul, hub⟩ := p
      exact hd acc H' dp hul hub nD e)
/-- over a list that stands for another one -/
theorem lcLr {xs : List V} {qs : List α} (f : α → V) (q : α → Bool) (hl : xs.length = qs.length) (hD : H1 D = none) (hx : SqL K H1 a xs) (hn : xs.length ≤ 100000)
    (hs : ∀ (i : Nat) (x : V) (y : α) (H : Hp) (Kt : V → Hp → Prop) (Kf : Hp → Prop), xs[i]? = some x → qs[i]? = some y → Same H1 H → (q y = true → ∀ H4, Same H H4 → Kt (f y) H4) → (q y = false → ∀ H4, Same H H4 → Kf H4) → LcT g tt te vs σ x H Kt Kf)
    (hd : ∀ H, Same H1 H → H D = some (.lst ((qs.filter q).map f)) → Qd H) : LcG (Itl K a) g tt te vs σ H1 D Qd :=
  lcLq (ysF f q qs) hD hx hn (fun i x H Kt Kf hxi s qq => by
    have hi := (List.getElem?_eq_some_iff.mp hxi).1
    have hy : qs[i]? = some qs[i] := List.getElem?_eq_getElem (by omega)
    exact hs i x _ H Kt Kf hxi hy s (fun e H4 s4 => qq.yes _ _ s4 (by unfold ysF; rw [hy]; exact if_pos e)) (fun e H4 s4 => qq.no _ s4 (by unfold ysF; rw [hy]; exact if_neg (by rw [e]; simp))))
    (fun H s h => hd H s (by rw [h, hl, ysF_all]))
/-- over zip, by places -/
theorem lcZf {xs zs : List V} {n : Nat} (X Z f : Nat → V) (q : Nat → Bool) (lx : xs.length = n) (lz : zs.length = n) (hX : ∀ i, i < n → xs[i]? = some (X i)) (hZ : ∀ i, i < n → zs[i]? = some (Z i)) (hD : H1 D = none) (hx : SqL K H1 a xs) (hz : SqL K H1 b zs) (hn : n ≤ 100000)
    (hs : ∀ (i : Nat) (T : Addr) (H : Hp) (Kt : V → Hp → Prop) (Kf : Hp → Prop), i < n → Same H1 H → H T = some (.tup [X i, Z i]) → (q i = true → ∀ H4, Same H H4 → Kt (f i) H4) → (q i = false → ∀ H4, Same H H4 → Kf H4) → LcT g tt te vs σ (.ref T) H Kt Kf)
    (hd : ∀ H, Same H1 H → H D = some (.lst (((List.range n).filter q).map f)) → Qd H) : LcG (Itz K a b) g tt te vs σ H1 D Qd :=
  lcZq (xs := xs) (zs := zs) (ysF f q (List.range n)) (by rw [lx, lz]) hD hx hz (by omega) (fun i x z T H Kt Kf hxi hzi s gT qq => by
    have hi : i < n := by have := (List.getElem?_eq_some_iff.mp hxi).1; omega
    rw [hX i hi] at hxi
    rw [hZ i hi] at hzi
    cases hxi
    cases hzi
    exact hs i T H Kt Kf hi s gT (fun e H4 s4 => qq.yes _ _ s4 (by unfold ysF; rw [range_get hi]; exact if_pos e)) (fun e H4 s4 => qq.no _ s4 (by unfold ysF; rw [range_get hi]; exact if_neg (by rw [e]; simp))))
    (fun H s h => hd H s (by have := ysF_all f q (List.range n); rw [List.length_range] at this; rw [h, lx, this]))
theorem lcZm {xs zs : List V} {n : Nat} (X Z f : Nat → V) (lx : xs.length = n) (lz : zs.length = n) (hX : ∀ i, i < n → xs[i]? = some (X i)) (hZ : ∀ i, i < n → zs[i]? = some (Z i)) (hD : H1 D = none) (hx : SqL K H1 a xs) (hz : SqL K H1 b zs) (hn : n ≤ 100000)
    (hs : ∀ (i : Nat) (T : Addr) (H : Hp) (Kt : V → Hp → Prop) (Kf : Hp → Prop), i < n → Same H1 H → H T = some (.tup [X i, Z i]) → (∀ H4, Same H H4 → Kt (f i) H4) → LcT g tt te vs σ (.ref T) H Kt Kf)
    (hd : ∀ H, Same H1 H → H D = some (.lst ((List.range n).map f)) → Qd H) : LcG (Itz K a b) g tt te vs σ H1 D Qd :=
  lcZf X Z f (fun _ => true) lx lz hX hZ hD hx hz hn (fun i T H Kt Kf hi s gT h _ => hs i T H Kt Kf hi s gT (h rfl)) (fun H s h => hd H s (by rw [h, List.filter_eq_self.mpr fun _ _ => rfl]))
/-- over a list, by places -/
theorem lcLxf {xs : List V} (f : Nat → V) (q : Nat → Bool) (hD : H1 D = none) (hx : SqL K H1 a xs) (hn : xs.length ≤ 100000)
    (hs : ∀ (i : Nat) (x : V) (H : Hp) (Kt : V → Hp → Prop) (Kf : Hp → Prop), xs[i]? = some x → Same H1 H → (q i = true → ∀ H4, Same H H4 → Kt (f i) H4) → (q i = false → ∀ H4, Same H H4 → Kf H4) → LcT g tt te vs σ x H Kt Kf)
    (hd : ∀ H, Same H1 H → H D = some (.lst (((List.range xs.length).filter q).map f)) → Qd H) : LcG (Itl K a) g tt te vs σ H1 D Qd :=
  lcLq (ysF f q (List.range xs.length)) hD hx hn (fun i x H Kt Kf hxi s qq => by
    have hi := (List.getElem?_eq_some_iff.mp hxi).1
    exact hs i x H Kt Kf hxi s (fun e H4 s4 => qq.yes _ _ s4 (by unfold ysF; rw [range_get hi]; exact if_pos e)) (fun e H4 s4 => qq.no _ s4 (by unfold ysF; rw [range_get hi]; exact if_neg (by rw [e]; simp))))
    (fun H s h => hd H s (by have := ysF_all f q (List.range xs.length); rw [List.length_range] at this; rw [h, this]))
theorem lcLx {xs : List V} (f : Nat → V) (hD : H1 D = none) (hx : SqL K H1 a xs) (hn : xs.length ≤ 100000)
    (hs : ∀ (i : Nat) (x : V) (H : Hp) (Kt : V → Hp → Prop) (Kf : Hp → Prop), xs[i]? = some x → Same H1 H → (∀ H4, Same H H4 → Kt (f i) H4) → LcT g tt te vs σ x H Kt Kf)
    (hd : ∀ H, Same H1 H → H D = some (.lst ((List.range xs.length).map f)) → Qd H) : LcG (Itl K a) g tt te vs σ H1 D Qd :=
  lcLxf f (fun _ => true) hD hx hn (fun i x H Kt Kf hx s h _ => hs i x H Kt Kf hx s (h rfl)) (fun H s h => hd H s (by rw [h, List.filter_eq_self.mpr fun _ _ => rfl]))
end
theorem all_true (n : Nat) : ((List.range n).map fun _ => true).all id = true := by simp
theorem bls (n : Nat) (f : Nat → Bool) : (List.range n).map (fun i => V.bl (f i)) = ((List.range n).map f).map V.bl := by rw [List.map_map]; rfl
/-- isinstance(x, (T1, T2)) of plain things -/
def rIs2 (T1 T2 : String) (ans : V → String → Bool) : List V → Hp → VK → Prop := fun xs H Q => ∃ (x : V) (tp : Addr) (t : String), xs = [x, .ref tp] ∧ Ty7 H x t ∧ H tp = some (.tup [.ty T1, .ty T2]) ∧ Q (.bl (ans x t)) H
theorem call_isTy2 {X : Cx} (T1 T2 : String) (a1 a2 : V → String → Bool) (h1 : ∀ H x t, Ty7 H x t → kitB t T1 = some (a1 x t)) (h2 : ∀ H x t, Ty7 H x t → kitB t T2 = some (a2 x t)) : CallR X (.builtin "isinstance") (rIs2 T1 T2 fun x t => a1 x t || a2 x t) :=
  callR_imp call_isiT fun _ H Q ⟨x, tp, t, e, ht, hp, q⟩ => ⟨x, tp, [.ty T1, .ty T2], _, [.type T1, .type T2], _, e, hp, .cons (.ty _) (.cons (.ty _) .nil), ht.tx, kitAny_cons (b := a1 x t) (kit_ty (h1 H x t ht)) (fun e1 => kitAny_cons (b := a2 x t) (kit_ty (h2 H x t ht)) (fun e2 => by simp only [e1, e2]; rfl) (fun e2 => by simp only [e1, e2]; rfl)) (fun e1 => by simp only [e1]; rfl), q⟩
theorem is_strtup {X : Cx} : CallR X (.builtin "isinstance") (rIs2 "str" "tuple" fun _ t => decide (t = "str") || decide (t = "tuple")) := call_isTy2 _ _ (fun _ t => decide (t = "str")) (fun _ t => decide (t = "tuple")) (fun _ _ _ h => h.ks) (fun _ _ _ h => h.kt)
/-- a list or a tuple -/
def SqE (K : PySem.W.Frag) (H : Hp) (a : Addr) (xs : List V) : Prop := SqL K H a xs ∨ SqT K H a xs
theorem SqE.same {K : PySem.W.Frag} {H H' : Hp} {a : Addr} {xs : List V} (h : SqE K H a xs) (s : Same H H') : SqE K H' a xs := h.imp (fun h => s.seq h) (fun h => Same.seqT s h)
theorem But.seqT {K : PySem.W.Frag} {H H' : Hp} {a b : Addr} {xs : List V} (e : But a H H') (n : b ≠ a) (h : SqT K H b xs) : SqT K H' b xs := by
  rcases h with (h | ⟨o, h⟩) | h
  · exact .inl (.inl (e _ _ n h))
  · exact .inl (.inr ⟨o, e _ _ n h⟩)
  · exact .inr h
theorem SqE.but {K : PySem.W.Frag} {H H' : Hp} {a b : Addr} {xs : List V} (h : SqE K H b xs) (e : But a H H') (n : b ≠ a) : SqE K H' b xs := h.imp (fun h => e.seq n h) (fun h => e.seqT n h)
theorem ixE {K : PySem.W.Frag} {H : Hp} {a : Addr} {xs : List V} {i : Int} {v : V} {Q : VK} (h : SqE K H a xs) (e : atI xs i = some v) (q : Q v H) : rIx K (.ref a) (.int i) H Q := by
  rcases h with h | h
  · exact .inl ⟨_, _, _, _, rfl, rfl, h, e, q⟩
  · exact .inr (.inl ⟨_, _, _, _, rfl, rfl, h, e, q⟩)
theorem atI_add {xs : List V} {f i : Nat} {v : V} (h : xs[f + i]? = some v) : atI xs ((f : Int) + (i : Int)) = some v := by
  rw [← Int.natCast_add]; exact atI_nat h
theorem pick_list {α : Type} {P : V → α → Prop} : ∀ (us : List V), (∀ (i : Nat) (v : V), us[i]? = some v → ∃ t, P v t) → ∃ ts : List α, us.length = ts.length ∧ ∀ (i : Nat) (v : V) (t : α), us[i]? = some v → ts[i]? = some t → P v t
  | [], _ => ⟨[], rfl, fun i v t h => by simp at h⟩
  | u :: us, h => by
    obtain ⟨t, ht⟩ := h 0 u rfl
    obtain ⟨ts, hl, hts⟩ := pick_list us fun i v hv => h (i + 1) v hv
    refine ⟨t :: ts, by rw [List.length_cons, List.length_cons, hl], fun i v t' hv ht' => ?_⟩
    cases i with
    | zero => cases hv; cases ht'; exact ht
    | succ i => exact hts i v t' hv ht'
end My

open PySem L2 My
/-! ### short steps -/
local macro_rules | `(tactic| tm_at "hp") => `(tactic| first
  | with_reducible assumption
  | exact upd_same
  | (with_reducible refine upd_keep ?hpn ?hpr; (case hpn => with_reducible assumption); (case hpr => tm_at "hp"))
  | (refine Eq.trans (upd_ne ?hpn) ?hpr; (case hpn => tm_at "ne"); (case hpr => tm_at "hp"))
  | (refine' Same.app ?hps ?hpr; (case hps => with_reducible assumption); (case hpr => tm_at "hp"))
  | (refine' Dr.app ?hps ?hpn ?hpr; (case hps => with_reducible assumption); (case hpr => tm_at "hp"); (case hpn => tm_at "ne"))
  | (refine' But.app ?hps ?hpn ?hpr; (case hps => with_reducible assumption); (case hpr => tm_at "hp"); (case hpn => tm_at "ne")))
local macro_rules | `(tactic| tm_at "ne") => `(tactic| first
  | with_reducible assumption
  | (with_reducible refine Ne.symm ?nes; (case nes => with_reducible assumption))
  | (refine' ne_of_none ?nea ?neb; (case neb => with_reducible assumption); (case nea => tm_at "hp"))
  | (refine' Src.ne ?nea ?neb; (case neb => with_reducible assumption); (case nea => tm_at "sr"))
  | (refine' Ne.symm (Src.ne ?nea ?neb); (case neb => with_reducible assumption); (case nea => tm_at "sr"))
  | (refine' Ne.symm (ne_of_none ?nea ?neb); (case neb => with_reducible assumption); (case nea => tm_at "hp")))
/-- a list, a tuple that stands -/
local macro_rules | `(tactic| tm_at "sql") => `(tactic| first
  | with_reducible assumption
  | (refine sqL ?sqa; (case sqa => tm_at "hp"))
  | (refine' Same.seq ?sqs ?sqa; (case sqs => with_reducible assumption); (case sqa => tm_at "sql"))
  | (refine' Dr.seq ?sqs ?sqn ?sqa; (case sqs => with_reducible assumption); (case sqa => tm_at "sql"); (case sqn => tm_at "ne"))
  | (refine' But.seq ?sqs ?sqn ?sqa; (case sqs => with_reducible assumption); (case sqa => tm_at "sql"); (case sqn => tm_at "ne")))
/-- all but a stands; all stands -/
local macro_rules | `(tactic| tm_at "bt") => `(tactic| first
  | with_reducible assumption
  | with_reducible exact But.refl
  | (with_reducible refine But.upd ?btx; (case btx => tm_at "bt"))
  | (with_reducible refine But.new ?btx ?bty; (case bty => with_reducible assumption); (case btx => tm_at "bt"))
  | (refine' But.trans ?btx ?bty; (case bty => with_reducible assumption); (case btx => tm_at "bt"))
  | (refine' But.trans ?btx (Same.but ?bty); (case bty => with_reducible assumption); (case btx => tm_at "bt")))
local macro_rules | `(tactic| tm_at "sm") => `(tactic| first
  | with_reducible assumption
  | with_reducible exact Same.refl _
  | (with_reducible refine Same.new ?btx ?bty; (case bty => with_reducible assumption); (case btx => tm_at "sm"))
  | (with_reducible refine Same.mut ?btx ?bty; (case bty => with_reducible assumption); (case btx => tm_at "sm"))
  | (refine' Same.mut' ?btx ?bty ?btn; (case bty => with_reducible assumption); (case btx => tm_at "sm"); (case btn => tm_at "fr"))
  | (refine' Same.trans ?btx ?bty; (case bty => with_reducible assumption); (case btx => tm_at "sm")))
/-- the source stands; draws from there to here -/
local macro_rules | `(tactic| tm_at "sr") => `(tactic| first
  | with_reducible assumption
  | (refine' Dr.s ?srd; (case srd => with_reducible assumption))
  | (refine' Src.same ?srh ?srd; (case srd => with_reducible assumption); (case srh => tm_at "sr"))
  | (refine' Src.but ?srh ?srd ?srn; (case srd => with_reducible assumption); (case srh => tm_at "sr"); (case srn => tm_at "ne")))
local macro_rules | `(tactic| tm_at "dr") => `(tactic| first
  | with_reducible assumption
  | (refine' Dr.trans ?drx ?dry; (case dry => with_reducible assumption); (case drx => tm_at "dr"))
  | (refine' Dr.same ?drx ?dry; (case dry => with_reducible assumption); (case drx => tm_at "dr"))
  | (refine' Dr.mut ?drx ?dry ?drn ?drm; (case dry => with_reducible assumption); (case drx => tm_at "dr"); (case drn => tm_at "fr"); (case drm => tm_at "ne"))
  | (refine' Dr.of ?drx ?dry; (case drx => tm_at "sr"); (case dry => tm_at "sm"))
  | (refine Dr.refl ?drx; (case drx => tm_at "sr")))
/-- nothing stood there -/
local macro_rules | `(tactic| tm_at "fr") => `(tactic| first
  | with_reducible assumption
  | (refine' Same.free ?frs ?frh; (case frh => with_reducible assumption); (case frs => tm_at "sm"))
  | (refine' Dr.free ?frs ?frh ?frn; (case frh => with_reducible assumption); (case frs => tm_at "dr"); (case frn => tm_at "ne")))
/-- an int's condition -/
local macro_rules | `(tactic| tm_at "ic") => `(tactic| first
  | assumption
  | omega
  | exact Nat.le_of_ble_eq_true rfl
  | exact ⟨by decide, by decide +kernel⟩
  | exact Or.inr ⟨by omega, by omega⟩
  | exact Or.inl ⟨by omega, by omega⟩
  | exact Or.inr ⟨by decide, by decide⟩
  | exact ⟨by decide, by decide, by decide⟩
  | exact wide_div (b := 64) (by omega) (by omega) (by decide) (by decide)
  | decide
  | tm_at "sr")
/-- a plain thing's kind -/
local macro_rules | `(tactic| tm_at "t7") => `(tactic| first
  | with_reducible assumption
  | with_reducible exact Ty7.int _
  | with_reducible exact Ty7.bl _
  | with_reducible exact Ty7.non
  | with_reducible exact Ty7.str _
  | (refine' Ty7.lst ?t7h; (case t7h => tm_at "hp"))
  | (refine' Ty7.tup ?t7h; (case t7h => tm_at "hp")))
/-- one step of a reading -/
local macro_rules | `(tactic| tm_at "rd") => `(tactic| first
  | refine ⟨_, rfl, ?_⟩
  | refine ⟨_, _, rfl, rfl, ?_⟩
  | (refine And.intro ?rdc ?_; (case rdc => (first | tm_at "ic" | (dsimp only; tm_at "ic"))))
  | refine ⟨_, _, rfl, ?_⟩
  | refine ⟨rfl, ?_⟩
  | (refine' ⟨_, _, rfl, ?rd7, ?_⟩; (case rd7 => tm_at "t7"))
  | (refine' ⟨_, _, rfl, Or.inl ⟨_, ?rdl, rfl⟩, ?_⟩; (case rdl => tm_at "sql"))
  | refine Or.inl ⟨_, rfl, ?_⟩
  | refine Or.inr ⟨_, rfl, ?_⟩)
local macro_rules | `(tactic| tm_at "rds") => `(tactic| repeat (tm_at "rd"))
/-- a tuple that stands -/
local macro_rules | `(tactic| tm_at "sqt") => `(tactic| first
  | with_reducible assumption
  | (refine sqT ?sqa; (case sqa => tm_at "hp"))
  | (refine' Same.seqT ?sqs ?sqa; (case sqs => with_reducible assumption); (case sqa => tm_at "sqt"))
  | (refine' Dr.seqT ?sqs ?sqn ?sqa; (case sqs => with_reducible assumption); (case sqa => tm_at "sqt"); (case sqn => tm_at "ne")))
/-- more steps: tests that are plain, items by a plain index, the length of a tuple -/
local macro_rules | `(tactic| tm_at "rz") => `(tactic| first
  | (refine' And.intro (Or.inl (And.intro rfl (Exists.intro _ ?rzt))) ?_; (case rzt => tm_at "sql"))
  | tm_at "rd"
  | (refine' ⟨_, _, rfl, Or.inr ⟨_, ?rdl, rfl⟩, ?_⟩; (case rdl => tm_at "sqt"))
  | (refine' ⟨_, _, _, _, rfl, rfl, ?rzl, ?rzi, ?_⟩; (case rzl => (first | tm_at "sql" | tm_at "sqt")); (case rzi => exact rfl))
  | (refine iteF' ?rzb ?_; (case rzb => (first | with_reducible rfl | rfl | decide)))
  | (refine iteT' ?rzb ?_; (case rzb => (first | with_reducible rfl | rfl | decide))))
local macro_rules | `(tactic| tm_at "rzs") => `(tactic| repeat (tm_at "rz"))
/-- .. up to an if that has something behind it -/
local macro_rules | `(tactic| tm_at "rzi") => `(tactic| repeat ((try dsimp only [gName]); (fail_if_success (with_reducible refine isIf ?_)); tm_at "rz"))
/-! ### totals dealt by caps and weights: plain mathematics -/
namespace My
open PySem L2
/-- the sum of f over some places -/
def S (f : Nat → Int) (R : List Nat) : Int := (R.map f).sum
theorem S_nil (f : Nat → Int) : S f [] = 0 := rfl
theorem S_cons (f : Nat → Int) (i : Nat) (R : List Nat) : S f (i :: R) = f i + S f R := by unfold S; rw [List.map_cons, List.sum_cons]
theorem S_append (f : Nat → Int) (R T : List Nat) : S f (R ++ T) = S f R + S f T := by unfold S; rw [List.map_append, List.sum_append]
theorem S_nonneg {f : Nat → Int} : ∀ {R : List Nat}, (∀ i ∈ R, 0 ≤ f i) → 0 ≤ S f R
  | [], _ => Int.le_refl 0
  | i :: R, h => by
    rw [S_cons]
    have h1 := h i (List.mem_cons_self ..)
    have h2 := S_nonneg (R := R) fun j hj => h j (List.mem_cons_of_mem _ hj)
    omega
theorem S_le {f g : Nat → Int} : ∀ {R : List Nat}, (∀ i ∈ R, f i ≤ g i) → S f R ≤ S g R
  | [], _ => Int.le_refl 0
  | i :: R, h => by
    rw [S_cons, S_cons]
    have h1 := h i (List.mem_cons_self ..)
    have h2 := S_le (R := R) fun j hj => h j (List.mem_cons_of_mem _ hj)
    omega
theorem S_lt {f g : Nat → Int} : ∀ {R : List Nat}, (∀ i ∈ R, f i < g i) → R ≠ [] → S f R < S g R
  | [], _, h => absurd rfl h
  | i :: R, h, _ => by
    rw [S_cons, S_cons]
    have h1 := h i (List.mem_cons_self ..)
    have h2 := S_le (R := R) fun j hj => Int.le_of_lt (h j (List.mem_cons_of_mem _ hj))
    omega
theorem S_congr {f g : Nat → Int} : ∀ {R : List Nat}, (∀ i ∈ R, f i = g i) → S f R = S g R
  | [], _ => rfl
  | i :: R, h => by
    rw [S_cons, S_cons, h i (List.mem_cons_self ..), S_congr (R := R) fun j hj => h j (List.mem_cons_of_mem _ hj)]
theorem S_mul (c : Int) (f : Nat → Int) : ∀ R : List Nat, S (fun i => c * f i) R = c * S f R
  | [] => (Int.mul_zero c).symm
  | i :: R => by rw [S_cons, S_cons, S_mul c f R, Int.mul_add]
theorem S_mul_r (c : Int) (f : Nat → Int) : ∀ R : List Nat, S (fun i => f i * c) R = S f R * c
  | [] => (Int.zero_mul c).symm
  | i :: R => by rw [S_cons, S_cons, S_mul_r c f R, Int.add_mul]
theorem S_split (f : Nat → Int) (p : Nat → Bool) : ∀ R : List Nat, S f R = S f (R.filter p) + S f (R.filter fun i => !p i)
  | [] => rfl
  | i :: R => by
    rw [S_cons, S_split f p R, List.filter_cons, List.filter_cons]
    cases h : p i with
    | true => simp only [Bool.not_true, if_true, Bool.false_eq_true, if_false]; rw [S_cons]; omega
    | false => simp only [Bool.not_false, if_true, Bool.false_eq_true, if_false]; rw [S_cons]; omega
theorem S_bound {f : Nat → Int} {c : Int} : ∀ {R : List Nat}, (∀ i ∈ R, f i ≤ c) → S f R ≤ c * R.length
  | [], _ => by simp [S_nil]
  | i :: R, h => by
    rw [S_cons, List.length_cons]
    have h1 := h i (List.mem_cons_self ..)
    have h2 := S_bound (R := R) fun j hj => h j (List.mem_cons_of_mem _ hj)
    have e : c * ((R.length + 1 : Nat) : Int) = c * R.length + c := by rw [Int.natCast_add, Int.mul_add]; simp
    omega
abbrev natsV (ch : List Nat) : List V := ch.map fun i : Nat => V.int (i : Int)
def wAt (ws : List Int) (i : Nat) : Int := ws.getD i 0
/-! #### the level -/
/-- what the removed ones keep: cap ≤ level times weight, while the level T / W only rises -/
theorem rise {T W C V : Int} (hW : 0 < W) (hC : C * W ≤ T * V) : T * (W - V) ≤ (T - C) * W := by
  rw [Int.mul_sub, Int.sub_mul]; omega
theorem keep_cap {c w T W T' W' : Int} (hW : 0 < W) (hw : 0 ≤ w) (hW' : 0 ≤ W') (h : c * W ≤ T * w) (hr : T * W' ≤ T' * W) : c * W' ≤ T' * w := by
  have h1 : c * W * W' ≤ T * w * W' := Int.mul_le_mul_of_nonneg_right h hW'
  have h2 : T * W' * w ≤ T' * W * w := Int.mul_le_mul_of_nonneg_right hr hw
  have e1 : c * W * W' = c * W' * W := by rw [Int.mul_assoc, Int.mul_comm W W', ← Int.mul_assoc]
  have e2 : T * w * W' = T * W' * w := by rw [Int.mul_assoc, Int.mul_comm w W', ← Int.mul_assoc]
  have e3 : T' * W * w = T' * w * W := by rw [Int.mul_assoc, Int.mul_comm W w, ← Int.mul_assoc]
  exact Int.le_of_mul_le_mul_right (by rw [← e1, ← e3]; omega) hW
/-- behind the rest: what is weighed so far -/
def pre (w : Nat → Int) (p : Nat → Bool) : Nat → Int
  | 0 => 0
  | i + 1 => pre w p i + if p i then w i else 0
/-- what one gets by running sums -/
def part (t b beh w : Int) : Int := t * (beh + w) / b - t * beh / b
/-- the pairs that running tells -/
def runD (t b : Int) (w : Nat → Int) : List Nat → Int → List (Nat × Int)
  | [], _ => []
  | i :: r, beh => (i, part t b beh (w i)) :: runD t b w r (beh + w i)
theorem runD_append (t b : Int) (w : Nat → Int) (i : Nat) : ∀ (l : List Nat) (beh : Int), runD t b w (l ++ [i]) beh = runD t b w l beh ++ [(i, part t b (beh + S w l) (w i))]
  | [], beh => by simp [runD, S_nil]
  | j :: l, beh => by
    rw [List.cons_append]
    simp only [runD]
    rw [runD_append t b w i l (beh + w j), S_cons, Int.add_assoc, List.cons_append]
theorem runD_fst (t b : Int) (w : Nat → Int) : ∀ (l : List Nat) (beh : Int), (runD t b w l beh).map (·.1) = l
  | [], _ => rfl
  | i :: l, beh => by simp only [runD, List.map_cons]; rw [runD_fst t b w l]
theorem pre_eq (w : Nat → Int) (p : Nat → Bool) : ∀ n, pre w p n = S w ((List.range n).filter p)
  | 0 => rfl
  | n + 1 => by
    rw [List.range_succ, List.filter_append, S_append, ← pre_eq w p n]
    simp only [pre, List.filter_cons, List.filter_nil]
    cases p n <;> simp [S_cons, S_nil]
theorem runD_range (t b : Int) (w : Nat → Int) (p : Nat → Bool) : ∀ n, ∀ q ∈ runD t b w ((List.range n).filter p) 0, p q.1 = true ∧ q.1 < n ∧ q.2 = part t b (pre w p q.1) (w q.1)
  | 0, q, h => by simp [runD] at h
  | n + 1, q, h => by
    rw [List.range_succ, List.filter_append] at h
    cases hp : p n with
    | false =>
      rw [List.filter_cons, hp] at h
      simp only [Bool.false_eq_true, if_false, List.filter_nil, List.append_nil] at h
      obtain ⟨h1, h2, h3⟩ := runD_range t b w p n q h
      exact ⟨h1, by omega, h3⟩
    | true =>
      rw [List.filter_cons, hp] at h
      simp only [if_true, List.filter_nil] at h
      rw [runD_append] at h
      rcases List.mem_append.mp h with h | h
      · obtain ⟨h1, h2, h3⟩ := runD_range t b w p n q h
        exact ⟨h1, by omega, h3⟩
      · simp only [List.mem_singleton] at h
        subst h
        exact ⟨hp, by simp, by simp [pre_eq]⟩
/-- found, set by pairs -/
def putAll (f : List Int) (ps : List (Nat × Int)) : List Int := ps.foldl (fun f q => f.set q.1 q.2) f
theorem putAll_len : ∀ (ps : List (Nat × Int)) (f : List Int), (putAll f ps).length = f.length
  | [], _ => rfl
  | q :: ps, f => by
    show (putAll (f.set q.1 q.2) ps).length = _
    rw [putAll_len ps, List.length_set]
theorem putAll_out {i : Nat} : ∀ (ps : List (Nat × Int)) (f : List Int), i ∉ ps.map (·.1) → (putAll f ps)[i]? = f[i]?
  | [], _, _ => rfl
  | q :: ps, f, h => by
    show (putAll (f.set q.1 q.2) ps)[i]? = _
    rw [List.map_cons, List.mem_cons, not_or] at h
    rw [putAll_out ps _ h.2, List.getElem?_set_ne (fun e => h.1 e.symm)]
theorem putAll_in {g : Nat → Int} {i : Nat} : ∀ (ps : List (Nat × Int)) (f : List Int), (∀ q ∈ ps, q.2 = g q.1) → i ∈ ps.map (·.1) → i < f.length → (putAll f ps)[i]? = some (g i)
  | [], _, _, h, _ => by simp at h
  | q :: ps, f, hg, h, hl => by
    show (putAll (f.set q.1 q.2) ps)[i]? = _
    by_cases hm : i ∈ ps.map (·.1)
    · exact putAll_in ps _ (fun r hr => hg r (List.mem_cons_of_mem _ hr)) hm (by rw [List.length_set]; exact hl)
    · rw [putAll_out ps _ hm]
      rw [List.map_cons, List.mem_cons] at h
      rcases h with e | h
      · subst e
        rw [List.getElem?_set_self hl, hg q (List.mem_cons_self ..)]
      · exact absurd h hm
/-! #### the spec, and the loop -/
def capN (cap : Nat → Option Int) (i : Nat) : Int := (cap i).getD 0
/-- who has weight -/
def wtd (n : Nat) (w : Nat → Int) : List Nat := (List.range n).filter fun i => decide (0 < w i)
/-- the cap is no more than level times weight -/
def heldB (t b : Int) (w : Nat → Int) (cap : Nat → Option Int) (i : Nat) : Bool := match cap i with
  | some c => decide (c * b ≤ t * w i)
  | none => false
/-- who is dealt to by the level -/
def restB (t b : Int) (w : Nat → Int) (cap : Nat → Option Int) (i : Nat) : Bool := decide (0 < w i) && !heldB t b w cap i
def less (c : Option Int) (b x : Int) : Int := match c with
  | some c => min (c * b) x
  | none => x
structure Dealt (n : Nat) (w : Nat → Int) (cap : Nat → Option Int) (total : Int) (lv : Option (Int × Int)) (fs : List Int) : Prop where
  len : fs.length = n
  zero : ∀ i, i < n → w i ≤ 0 → fs[i]? = some 0
  non : lv = none → (∀ i, i < n → 0 < w i → ∃ c, cap i = some c ∧ fs[i]? = some c) ∧ S (capN cap) (wtd n w) ≤ total
  lev : ∀ t b, lv = some (t, b) → 0 ≤ t ∧ 0 < b ∧ Int.gcd t b = 1 ∧ ¬ ((∀ i, i < n → 0 < w i → (cap i).isSome = true) ∧ S (capN cap) (wtd n w) ≤ total) ∧
    S (fun i => less (cap i) b (t * w i)) (wtd n w) = total * b ∧
    ∀ i, i < n → 0 < w i → fs[i]? = some (if heldB t b w cap i then capN cap i else part t b (pre w (restB t b w cap) i) (w i))
/-- between two turns: who is left (p), what is left (T) -/
structure DI (n : Nat) (w : Nat → Int) (cap : Nat → Option Int) (total : Int) (p : Nat → Bool) (T : Int) (f : List Int) : Prop where
  len : f.length = n
  pw : ∀ i, i < n → p i = true → 0 < w i
  tn : 0 ≤ T
  out : ∀ i, i < n → 0 < w i → p i = false → ∃ c, cap i = some c ∧ f[i]? = some c ∧ c * S w ((List.range n).filter p) ≤ T * w i
  yet : ∀ i, i < n → (p i = true ∨ w i ≤ 0) → f[i]? = some 0
  sum : T + S (capN cap) ((List.range n).filter fun i => decide (0 < w i) && !p i) = total
section
variable {n : Nat} {w : Nat → Int} {cap : Nat → Option Int} {total T : Int} {p : Nat → Bool} {f : List Int}
theorem filter_congr' {q r : Nat → Bool} {l : List Nat} (h : ∀ i ∈ l, q i = r i) : l.filter q = l.filter r := List.filter_congr h
theorem DI.start (h0 : 0 ≤ total) : DI n w cap total (fun i => decide (0 < w i)) total (List.replicate n 0) := by
  refine ⟨List.length_replicate, fun i _ h => of_decide_eq_true h, h0, fun i _ h1 h2 => absurd h1 (of_decide_eq_false h2), fun i hi _ => by rw [List.getElem?_replicate, if_pos hi], ?_⟩
  have e : ((List.range n).filter fun i => decide (0 < w i) && !decide (0 < w i)) = [] := by
    rw [List.filter_eq_nil_iff]
    intro i _
    cases decide (0 < w i) <;> simp
  rw [e, S_nil]; omega
/-- nobody is left -/
theorem DI.fin0 (d : DI n w cap total p T f) (he : (List.range n).filter p = []) : Dealt n w cap total none f := by
  have hp : ∀ i, i < n → p i = false := fun i hi => by
    have := List.filter_eq_nil_iff.mp he i (List.mem_range.mpr hi)
    simpa using this
  refine ⟨d.len, fun i hi h => d.yet i hi (.inr h), fun _ => ⟨fun i hi h => ?_, ?_⟩, fun t b h => by cases h⟩
  · obtain ⟨c, h1, h2, _⟩ := d.out i hi h (hp i hi)
    exact ⟨c, h1, h2⟩
  · have e : wtd n w = ((List.range n).filter fun i => decide (0 < w i) && !p i) := filter_congr' fun i hi => by
      rw [hp i (List.mem_range.mp hi)]; simp
    rw [e]
    have := d.sum
    have := d.tn
    omega
/-- who has no more than level times weight as a cap -/
def fullB (T W : Int) (w : Nat → Int) (cap : Nat → Option Int) (i : Nat) : Bool := heldB T W w cap i
theorem S_pos {R : List Nat} (h : ∀ i ∈ R, 0 < w i) (hne : R ≠ []) : 0 < S w R := by
  have := S_lt (f := fun _ => 0) (g := w) h hne
  have e : S (fun _ => 0) R = 0 := by
    have : ∀ R : List Nat, S (fun _ => 0) R = 0 := fun R => by
      induction R with
      | nil => rfl
      | cons i R ih => rw [S_cons, ih]; rfl
    exact this R
  omega
theorem heldB_some {t b : Int} {i : Nat} (h : heldB t b w cap i = true) : ∃ c, cap i = some c ∧ c * b ≤ t * w i := by
  unfold heldB at h
  cases e : cap i with
  | none => rw [e] at h; cases h
  | some c => rw [e] at h; exact ⟨c, rfl, of_decide_eq_true h⟩
theorem heldB_iff {t b c : Int} {i : Nat} (e : cap i = some c) : heldB t b w cap i = decide (c * b ≤ t * w i) := by
  unfold heldB
  rw [e]
theorem filter_and (q r : Nat → Bool) (l : List Nat) : (l.filter q).filter r = l.filter fun i => q i && r i := by
  rw [List.filter_filter]
  exact List.filter_congr fun i _ => by rw [Bool.and_comm]
/-- one turn -/
theorem DI.turn (d : DI n w cap total p T f) (W : Int) (hW : W = S w ((List.range n).filter p)) (hne : (List.range n).filter p ≠ []) (full : List Nat) (hfull : full = ((List.range n).filter p).filter (heldB T W w cap)) :
    DI n w cap total (fun i => p i && !heldB T W w cap i) (T - S (capN cap) full) (putAll f (full.map fun i => (i, capN cap i))) := by
  have hpos : ∀ i ∈ (List.range n).filter p, 0 < w i := fun i hi => by
    obtain ⟨h1, h2⟩ := List.mem_filter.mp hi
    exact d.pw i (List.mem_range.mp h1) h2
  have W0 : 0 < W := by rw [hW]; exact S_pos hpos hne
  have mfull : ∀ i, i ∈ full ↔ (i < n ∧ p i = true) ∧ heldB T W w cap i = true := fun i => by
    rw [hfull, List.mem_filter, List.mem_filter, List.mem_range]
  -- C * W ≤ T * V
  have hC : S (capN cap) full * W ≤ T * S w full := by
    rw [← S_mul_r, ← S_mul]
    refine S_le fun i hi => ?_
    obtain ⟨c, e, h⟩ := heldB_some ((mfull i).mp hi).2
    show (cap i).getD 0 * W ≤ T * w i
    rw [e]; exact h
  have hsp : W = S w full + S w ((List.range n).filter fun i => p i && !heldB T W w cap i) := by
    have e := S_split w (heldB T W w cap) ((List.range n).filter p)
    rw [← hfull, filter_and, ← hW] at e
    exact e
  have V0 : S w full ≤ W := by
    have : 0 ≤ S w ((List.range n).filter fun i => p i && !heldB T W w cap i) := S_nonneg fun i hi => by
      obtain ⟨h1, h2⟩ := List.mem_filter.mp hi
      have := d.pw i (List.mem_range.mp h1) (Bool.and_eq_true_iff.mp h2).1
      omega
    omega
  have T0 : 0 ≤ T - S (capN cap) full := by
    have h1 : T * S w full ≤ T * W := Int.mul_le_mul_of_nonneg_left V0 d.tn
    have h2 : S (capN cap) full * W ≤ T * W := Int.le_trans hC h1
    have := Int.le_of_mul_le_mul_right h2 W0
    omega
  have hr := rise W0 hC
  have eW' : W - S w full = S w ((List.range n).filter fun i => p i && !heldB T W w cap i) := by omega
  rw [eW'] at hr
  have W'0 : 0 ≤ S w ((List.range n).filter fun i => p i && !heldB T W w cap i) := by omega
  have fst : (full.map fun i => (i, capN cap i)).map (·.1) = full := by rw [List.map_map]; exact List.map_id'' (fun _ => rfl) _
  refine ⟨by rw [putAll_len]; exact d.len, fun i hi h => d.pw i hi (Bool.and_eq_true_iff.mp h).1, T0, fun i hi hw hp' => ?_, fun i hi h => ?_, ?_⟩
  · cases hp : p i with
    | false =>
      obtain ⟨c, h1, h2, h3⟩ := d.out i hi hw hp
      refine ⟨c, h1, ?_, ?_⟩
      · rw [putAll_out _ _ (by rw [fst]; intro hm; have := ((mfull i).mp hm).1.2; rw [hp] at this; cases this)]
        exact h2
      · rw [← hW] at h3
        exact keep_cap W0 (Int.le_of_lt hw) W'0 h3 hr
    | true =>
      have hh : heldB T W w cap i = true := by rw [hp] at hp'; simpa using hp'
      obtain ⟨c, e, h⟩ := heldB_some hh
      refine ⟨c, e, ?_, keep_cap W0 (Int.le_of_lt hw) W'0 h hr⟩
      have := putAll_in (g := capN cap) (i := i) (full.map fun i => (i, capN cap i)) f (fun q hq => by
        obtain ⟨j, _, e⟩ := List.mem_map.mp hq
        rw [← e]) (by rw [fst]; exact (mfull i).mpr ⟨⟨hi, hp⟩, hh⟩) (by rw [d.len]; exact hi)
      rw [this]
      show some ((cap i).getD 0) = some c
      rw [e]; rfl
  · have hn : i ∉ full := fun hm => by
      obtain ⟨⟨_, h1⟩, h2⟩ := (mfull i).mp hm
      rcases h with h | h
      · rw [h1, h2] at h; cases h
      · have := d.pw i hi h1; omega
    rw [putAll_out _ _ (by rw [fst]; exact hn)]
    refine d.yet i hi ?_
    rcases h with h | h
    · exact .inl (Bool.and_eq_true_iff.mp h).1
    · exact .inr h
  · have e1 : S (capN cap) ((List.range n).filter fun i => decide (0 < w i) && !(p i && !heldB T W w cap i)) = S (capN cap) full + S (capN cap) ((List.range n).filter fun i => decide (0 < w i) && !p i) := by
      have e := S_split (capN cap) p ((List.range n).filter fun i => decide (0 < w i) && !(p i && !heldB T W w cap i))
      rw [filter_and, filter_and] at e
      rw [e]
      congr 1
      · congr 1
        rw [hfull, filter_and]
        refine filter_congr' fun i hi => ?_
        have := d.pw i (List.mem_range.mp hi)
        cases hp : p i with
        | false => simp
        | true =>
          rw [decide_eq_true (this hp)]
          cases heldB T W w cap i <;> rfl
      · congr 1
        refine filter_congr' fun i _ => ?_
        cases p i <;> simp
    rw [e1]
    have := d.sum
    omega
/-- nobody is held any more: the level -/
theorem DI.fin1 (d : DI n w cap total p T f) (W : Int) (hW : W = S w ((List.range n).filter p)) (hne : (List.range n).filter p ≠ []) (hfull : ((List.range n).filter p).filter (heldB T W w cap) = []) {t b g : Int}
    (eT : T = t * g) (eW : W = b * g) (hg : 0 < g) (hgcd : Int.gcd t b = 1) :
    Dealt n w cap total (some (t, b)) (putAll f (runD t b w ((List.range n).filter p) 0)) := by
  have hpos : ∀ i ∈ (List.range n).filter p, 0 < w i := fun i hi => by
    obtain ⟨h1, h2⟩ := List.mem_filter.mp hi
    exact d.pw i (List.mem_range.mp h1) h2
  have W0 : 0 < W := by rw [hW]; exact S_pos hpos hne
  have b0 : 0 < b := Int.pos_of_mul_pos_right (by rw [Int.mul_comm] at eW; rw [← eW]; exact W0) hg
  have t0 : 0 ≤ t := by
    by_cases h : 0 ≤ t
    · exact h
    · have : t * g < 0 := Int.mul_neg_of_neg_of_pos (by omega) hg
      have := d.tn
      omega
  have cmp : ∀ c i, (c * W ≤ T * w i ↔ c * b ≤ t * w i) := fun c i => by
    have e1 : c * W = c * b * g := by rw [eW, Int.mul_assoc]
    have e2 : T * w i = t * w i * g := by rw [eT, Int.mul_assoc, Int.mul_comm g, ← Int.mul_assoc]
    rw [e1, e2]
    exact ⟨fun h => Int.le_of_mul_le_mul_right h hg, fun h => Int.mul_le_mul_of_nonneg_right h (Int.le_of_lt hg)⟩
  have hheld : ∀ i, heldB t b w cap i = heldB T W w cap i := fun i => by
    unfold heldB
    cases cap i with
    | none => rfl
    | some c => exact decide_eq_decide.mpr (cmp c i).symm
  have hrest : ∀ i, i < n → restB t b w cap i = p i := fun i hi => by
    unfold restB
    rw [hheld]
    cases hp : p i with
    | true =>
      have hw := d.pw i hi hp
      have hm : i ∈ (List.range n).filter p := List.mem_filter.mpr ⟨List.mem_range.mpr hi, hp⟩
      have hh := List.filter_eq_nil_iff.mp hfull i hm
      rw [decide_eq_true hw]
      simpa using hh
    | false =>
      by_cases hw : 0 < w i
      · obtain ⟨c, e, _, h⟩ := d.out i hi hw hp
        rw [← hW] at h
        rw [heldB_iff e, decide_eq_true h]
        simp
      · rw [decide_eq_false hw]; rfl
  have epre : ∀ i, i ≤ n → pre w (restB t b w cap) i = pre w p i := by
    intro i hi
    rw [pre_eq, pre_eq]
    congr 1
    exact filter_congr' fun j hj => hrest j (by have := List.mem_range.mp hj; omega)
  have hrun := runD_range t b w p n
  have fst : (runD t b w ((List.range n).filter p) 0).map (·.1) = (List.range n).filter p := runD_fst ..
  have hin : ∀ i, i < n → p i = true → (putAll f (runD t b w ((List.range n).filter p) 0))[i]? = some (part t b (pre w p i) (w i)) := fun i hi hp =>
    putAll_in (g := fun i => part t b (pre w p i) (w i)) _ f (fun q hq => (hrun q hq).2.2) (by rw [fst]; exact List.mem_filter.mpr ⟨List.mem_range.mpr hi, hp⟩) (by rw [d.len]; exact hi)
  have hout : ∀ i, i < n → p i = false → (putAll f (runD t b w ((List.range n).filter p) 0))[i]? = f[i]? := fun i hi hp =>
    putAll_out _ f (by rw [fst]; intro hm; have := (List.mem_filter.mp hm).2; rw [hp] at this; cases this)
  -- those who have weight: the removed and the rest
  have hsplit : ∀ g : Nat → Int, S g (wtd n w) = S g ((List.range n).filter p) + S g ((List.range n).filter fun i => decide (0 < w i) && !p i) := fun g => by
    have e := S_split g p (wtd n w)
    unfold wtd at e
    rw [filter_and, filter_and] at e
    unfold wtd
    rw [e]
    congr 1
    congr 1
    refine filter_congr' fun i hi => ?_
    cases hp : p i with
    | false => simp
    | true => rw [decide_eq_true (d.pw i (List.mem_range.mp hi) hp)]; rfl
  have outs : ∀ i ∈ (List.range n).filter fun i => decide (0 < w i) && !p i, ∃ c, cap i = some c ∧ c * b ≤ t * w i := fun i hi => by
    obtain ⟨h1, h2⟩ := List.mem_filter.mp hi
    rw [Bool.and_eq_true] at h2
    obtain ⟨c, e, _, h⟩ := d.out i (List.mem_range.mp h1) (of_decide_eq_true h2.1) (by simpa using h2.2)
    rw [← hW] at h
    exact ⟨c, e, (cmp c i).mp h⟩
  have ins : ∀ i ∈ (List.range n).filter p, ∀ c, cap i = some c → t * w i < c * b := fun i hi c e => by
    have hh := List.filter_eq_nil_iff.mp hfull i hi
    rw [heldB_iff e] at hh
    have h3 : ¬ c * b ≤ t * w i := fun z => hh (decide_eq_true ((cmp c i).mpr z))
    omega
  refine ⟨by rw [putAll_len]; exact d.len, fun i hi h => ?_, (fun h => by cases h), fun t' b' h => ?_⟩
  · have hp : p i = false := by
      cases hp : p i with
      | false => rfl
      | true => have := d.pw i hi hp; omega
    rw [hout i hi hp]
    exact d.yet i hi (.inr h)
  · cases h
    refine ⟨t0, b0, hgcd, fun ⟨h1, h2⟩ => ?_, ?_, fun i hi hw => ?_⟩
    · -- all have caps, and these come to more than the total
      have hlt : S (fun i => t * w i) ((List.range n).filter p) < S (fun i => capN cap i * b) ((List.range n).filter p) := S_lt (fun i hi => by
        obtain ⟨ha, hb⟩ := List.mem_filter.mp hi
        have hs := h1 i (List.mem_range.mp ha) (hpos i hi)
        obtain ⟨c, e⟩ := Option.isSome_iff_exists.mp hs
        have := ins i hi c e
        show t * w i < (cap i).getD 0 * b
        rw [e]; exact this) hne
      rw [S_mul, S_mul_r, ← hW] at hlt
      have e1 : t * W = T * b := by rw [eT, eW, Int.mul_comm b g, ← Int.mul_assoc]
      rw [e1] at hlt
      have hlt2 := Int.lt_of_mul_lt_mul_right hlt (Int.le_of_lt b0)
      rw [hsplit] at h2
      have := d.sum
      omega
    · rw [hsplit]
      have e1 : S (fun i => less (cap i) b (t * w i)) ((List.range n).filter p) = t * W := by
        rw [hW, ← S_mul]
        refine S_congr fun i hi => ?_
        cases e : cap i with
        | none => simp [less]
        | some c =>
          have := ins i hi c e
          simp only [less]
          omega
      have e2 : S (fun i => less (cap i) b (t * w i)) ((List.range n).filter fun i => decide (0 < w i) && !p i) = S (capN cap) ((List.range n).filter fun i => decide (0 < w i) && !p i) * b := by
        rw [← S_mul_r]
        refine S_congr fun i hi => ?_
        obtain ⟨c, e, h⟩ := outs i hi
        unfold capN
        rw [e]
        simp only [less, Option.getD_some]
        omega
      rw [e1, e2]
      have e3 : t * W = T * b := by rw [eT, eW, Int.mul_comm b g, ← Int.mul_assoc]
      rw [e3, ← Int.add_mul, d.sum]
    · cases hp : p i with
      | true =>
        have hr := hrest i hi
        rw [hp] at hr
        unfold restB at hr
        rw [Bool.and_eq_true] at hr
        have hh : heldB t b w cap i = false := by simpa using hr.2
        rw [hin i hi hp, hh, epre i (Nat.le_of_lt hi)]
        rfl
      | false =>
        obtain ⟨c, e, h1, h2⟩ := d.out i hi hw hp
        rw [← hW] at h2
        rw [hout i hi hp, h1, heldB_iff e, decide_eq_true ((cmp c i).mp h2)]
        unfold capN
        rw [e]; rfl
end
/-! #### lists of places, levels as values -/
theorem lcYs_range (n : Nat) (p : Nat → Bool) (ys : Nat → Option V) (h : ∀ i, i < n → ys i = if p i = true then some (.int (i : Int)) else none) : lcYs n ys = natsV ((List.range n).filter p) := by
  have key : ∀ m, m ≤ n → lcYs m ys = natsV ((List.range m).filter p) := by
    intro m
    induction m with
    | zero => intro _; rfl
    | succ m ih =>
      intro hm
      rw [lcYs_succ, ih (by omega), h m (by omega), List.range_succ, List.filter_append]
      unfold natsV
      rw [List.map_append]
      congr 1
      cases hp : p m <;> simp [hp]
  exact key n (Nat.le_refl _)
theorem rep_zero (n : Nat) : (List.replicate n [V.int 0]).flatten = (List.replicate n (0 : Int)).map V.int := by
  induction n with
  | zero => rfl
  | succ n ih => rw [List.replicate_succ, List.flatten_cons, ih, List.replicate_succ, List.map_cons]; rfl
theorem inV_nats (i : Nat) : ∀ l : List Nat, inV (.int (i : Int)) (natsV l) = decide (i ∈ l)
  | [] => by simp [inV]
  | j :: l => by
    have ih := inV_nats i l
    unfold inV at ih ⊢
    simp only [natsV, List.map_cons, List.any_cons] at ih ⊢
    rw [ih]
    have e : eqV (V.int (j : Int)) (V.int (i : Int)) = decide (j = i) := by
      by_cases hj : j = i
      · subst hj; simp [eqV]
      · have : ¬ ((j : Int) = (i : Int)) := by omega
        simp [eqV, hj, this]
    rw [e]
    by_cases hj : j = i
    · subst hj; simp
    · have : ¬ i = j := fun z => hj z.symm
      simp [hj, this]
theorem flat_nats (l : List Nat) : (natsV l).all flatV = true := by
  rw [List.all_eq_true]
  intro x hx
  obtain ⟨i, _, rfl⟩ := List.mem_map.mp hx
  rfl
def natI (l : List Nat) : List Int := l.map fun i : Nat => (i : Int)
theorem natsV_eq (l : List Nat) : (natI l).map V.int = natsV l := by unfold natI; rw [List.map_map]; rfl
theorem natI_nil {l : List Nat} : natI l = [] ↔ l = [] := by unfold natI; exact List.map_eq_nil_iff
theorem nat_of_map {l : List Nat} {i : Nat} {y : V} (h : (natsV l)[i]? = some y) : ∃ c, l[i]? = some c ∧ y = V.int (c : Int) := by
  rw [List.getElem?_map] at h
  cases e : l[i]? with
  | none => rw [e] at h; cases h
  | some c => rw [e] at h; exact ⟨c, rfl, (Option.some.inj h).symm⟩
theorem int_at {ws : List Int} {c : Nat} (h : c < ws.length) : (ws.map V.int)[c]? = some (.int (wAt ws c)) := by
  rw [List.getElem?_map, List.getElem?_eq_getElem h]
  unfold wAt
  rw [List.getD_eq_getElem?_getD, List.getElem?_eq_getElem h]; rfl
def cAt (cs : List (Option Int)) (i : Nat) : Option Int := cs.getD i none
theorem opt_at {cs : List (Option Int)} {c : Nat} (h : c < cs.length) : (cs.map optI)[c]? = some (optI (cAt cs c)) := by
  rw [List.getElem?_map, List.getElem?_eq_getElem h]
  unfold cAt
  rw [List.getD_eq_getElem?_getD, List.getElem?_eq_getElem h]; rfl
theorem wAt_mem {ws : List Int} {i : Nat} (h : i < ws.length) : wAt ws i ∈ ws := by
  unfold wAt
  rw [List.getD_eq_getElem?_getD, List.getElem?_eq_getElem h]
  exact List.getElem_mem h
theorem cAt_mem {cs : List (Option Int)} {i : Nat} {z : Int} (h : cAt cs i = some z) : some z ∈ cs := by
  unfold cAt at h
  rw [List.getD_eq_getElem?_getD] at h
  cases e : cs[i]? with
  | none => rw [e] at h; cases h
  | some c => rw [e] at h; have : c = some z := h; rw [← this]; exact List.mem_of_getElem? e
/-- a level as it stands -/
def LvAt (H : Hp) (lv : Option (Int × Int)) (v : V) : Prop := match lv with
  | none => v = .non
  | some (t, b) => ∃ r, v = .ref r ∧ H r = some (.tup [.int t, .int b])
theorem filter_not_mem {p q : Nat → Bool} {l : List Nat} : ((l.filter p).filter fun i => !decide (i ∈ (l.filter p).filter q)) = l.filter fun i => p i && !q i := by
  rw [filter_and]
  refine List.filter_congr fun i hi => ?_
  cases hp : p i with
  | false => rfl
  | true =>
    have : decide (i ∈ (l.filter p).filter q) = q i := by
      cases hq : q i with
      | true => exact decide_eq_true (List.mem_filter.mpr ⟨List.mem_filter.mpr ⟨hi, hp⟩, hq⟩)
      | false => exact decide_eq_false fun hm => by have := (List.mem_filter.mp hm).2; rw [hq] at this; cases this
    rw [this]
theorem filter_lt {α : Type} {q : α → Bool} {l : List α} {j : α} (h : j ∈ l) (hq : q j = false) : (l.filter q).length < l.length := by
  have h1 := List.length_filter_le q l
  have h2 : (l.filter q).length ≠ l.length := fun e => by
    have := (List.length_filter_eq_length_iff.mp e) j h
    rw [hq] at this; cases this
  omega
theorem putAll_take {ps : List (Nat × Int)} {i : Nat} {q : Nat × Int} (h : ps[i]? = some q) (f : List Int) : putAll f (ps.take (i + 1)) = (putAll f (ps.take i)).set q.1 q.2 := by
  unfold putAll
  rw [List.take_add_one, h]
  show List.foldl _ f (ps.take i ++ [q]) = _
  rw [List.foldl_append]
  rfl
theorem ixN_nat {n i : Nat} (h : i < n) : ixN n (i : Int) = some i := by
  unfold ixN
  rw [if_pos (by omega), if_pos (by omega)]
  simp
theorem map_set {α β : Type} (f : α → β) (l : List α) (i : Nat) (x : α) : (l.map f).set i (f x) = (l.set i x).map f := (List.map_set).symm
end My

/-! ### texts as lists of signs: parts, words, the longest, the wish -/
namespace My
open PySem L2
abbrev sO (l : List Nat) : Str := ⟨l.toArray⟩
theorem sO_tl (x : Str) : sO x.cps.toList = x := by
  cases x
  simp [sO]
/-- cut at each c -/
def cut (c : Nat) : List Nat → List (List Nat)
  | [] => [[]]
  | d :: r => if d = c then [] :: cut c r else match cut c r with
    | p :: ps => (d :: p) :: ps
    | [] => [[d]]
theorem cut_ne (c : Nat) : ∀ l, ∃ p ps, cut c l = p :: ps
  | [] => ⟨[], [], rfl⟩
  | d :: r => by
    obtain ⟨p, ps, e⟩ := cut_ne c r
    unfold cut
    by_cases h : d = c
    · rw [if_pos h]; exact ⟨_, _, rfl⟩
    · rw [if_neg h, e]; exact ⟨_, _, rfl⟩
theorem cut_hit {c : Nat} {r : List Nat} : cut c (c :: r) = [] :: cut c r := by
  conv => lhs; unfold cut
  rw [if_pos rfl]
theorem cut_miss {c d : Nat} {r p : List Nat} {ps : List (List Nat)} (h : d ≠ c) (e : cut c r = p :: ps) : cut c (d :: r) = (d :: p) :: ps := by
  conv => lhs; unfold cut
  rw [if_neg h, e]
theorem cut_len (c : Nat) : ∀ l : List Nat, (cut c l).length ≤ l.length + 1
  | [] => Nat.le_refl _
  | d :: r => by
    have ih := cut_len c r
    obtain ⟨p, ps, e⟩ := cut_ne c r
    by_cases h : d = c
    · subst h
      rw [cut_hit, List.length_cons, List.length_cons]; omega
    · rw [cut_miss h e, List.length_cons]
      rw [e, List.length_cons] at ih
      rw [List.length_cons]; omega
theorem spl_cut (c : Nat) : ∀ (l acc : List Nat), ∀ p ps, cut c l = p :: ps → TL.spl [c] 0 acc l = (acc ++ p) :: ps
  | [], acc, p, ps, e => by
    cases e
    rw [TL.spl_nil, List.append_nil]
  | d :: r, acc, p, ps, e => by
    obtain ⟨p', ps', e'⟩ := cut_ne c r
    by_cases h : d = c
    · subst h
      rw [cut_hit] at e
      cases e
      rw [TL.spl_hit (by simp [TL.pre]), List.append_nil]
      show acc :: TL.spl [d] 0 [] r = _
      rw [spl_cut d r [] p' ps' e', e', List.nil_append]
    · rw [cut_miss h e'] at e
      cases e
      rw [TL.spl_miss (by simp [TL.pre, h]), spl_cut c r _ p' ps e', List.append_assoc]; rfl
theorem split_cut {c : Nat} (hc : c < 256) (l : List Nat) : Txt.split (sO l) ⟨#[c]⟩ = (cut c l).map sO := by
  have := SX.split_S (a := l) (b := [c]) (by simp) (by simp [hc])
  obtain ⟨p, ps, e⟩ := cut_ne c l
  rw [spl_cut c l [] p ps e, List.nil_append, ← e] at this
  exact this
theorem join_sO (a : List Nat) (ys : List (List Nat)) : Txt.join (sO a) (ys.map sO) = sO (TL.joinL a ys) := SX.join_S a ys
theorem cut_append (c : Nat) (b : List Nat) : ∀ a : List Nat, cut c (a ++ c :: b) = cut c a ++ cut c b
  | [] => by rw [List.nil_append, cut_hit]; rfl
  | d :: r => by
    have ih := cut_append c b r
    obtain ⟨p, ps, e⟩ := cut_ne c r
    by_cases h : d = c
    · subst h
      rw [List.cons_append, cut_hit, cut_hit, ih]; rfl
    · rw [List.cons_append, cut_miss h e, cut_miss h (p := p) (ps := ps ++ cut c b) (by rw [ih, e]; rfl)]; rfl
/-- the words of a part -/
def wordsL (l : List Nat) : List (List Nat) := (cut 32 l).filter (!·.isEmpty)
def maxN : List Nat → Nat
  | [] => 0
  | a :: l => max a (maxN l)
theorem maxN_append : ∀ a b : List Nat, maxN (a ++ b) = max (maxN a) (maxN b)
  | [], b => by simp [maxN]
  | x :: a, b => by
    show max x (maxN (a ++ b)) = max (max x (maxN a)) (maxN b)
    rw [maxN_append a b]; omega
theorem foldl_maxN : ∀ (l : List Nat) (n : Nat), (l.map Int.ofNat).foldl max (n : Int) = ((max n (maxN l) : Nat) : Int)
  | [], n => by simp [maxN]
  | a :: l, n => by
    show (l.map Int.ofNat).foldl max (max (n : Int) (a : Int)) = _
    rw [show max (n : Int) (a : Int) = ((max n a : Nat) : Int) by omega, foldl_maxN l]
    show _ = ((max n (max a (maxN l)) : Nat) : Int)
    omega
/-! the longest -/
def longL (x : List Nat) : Nat := maxN (((cut 10 x).flatMap wordsL).map List.length)
/-- sign by sign: the run, the most -/
def lgM : Nat → Nat → List Nat → Nat
  | _, m, [] => m
  | r, m, c :: t => let r' := if c = 32 ∨ c = 10 then 0 else r + 1
    lgM r' (max m r') t
theorem lgM_max : ∀ (t : List Nat) (r m : Nat), lgM r m t = max m (lgM r 0 t)
  | [], r, m => by simp [lgM]
  | c :: t, r, m => by
    show lgM _ (max m _) t = max m (lgM _ (max 0 _) t)
    rw [lgM_max t _ (max m _), lgM_max t _ (max 0 _)]; omega
/-- the longest of a part's words, its first word begun with r signs -/
def lgP (r : Nat) (x : List Nat) : Nat := match cut 32 x with
  | [] => 0
  | h :: ts => max (r + h.length) (maxN (ts.map List.length))
theorem maxN_filter : ∀ l : List (List Nat), maxN ((l.filter (!·.isEmpty)).map List.length) = maxN (l.map List.length)
  | [] => rfl
  | [] :: l => by
    show maxN ((l.filter _).map _) = max 0 (maxN (l.map List.length))
    rw [maxN_filter l]; omega
  | (a :: p) :: l => by
    show max _ (maxN ((l.filter _).map _)) = max _ _
    rw [maxN_filter l]
theorem lgP_words (x : List Nat) : lgP 0 x = maxN ((wordsL x).map List.length) := by
  unfold wordsL
  rw [maxN_filter]
  unfold lgP
  obtain ⟨p, ps, e⟩ := cut_ne 32 x
  rw [e]
  show max (0 + p.length) _ = max p.length _
  rw [Nat.zero_add]
theorem lgP_nil (r : Nat) : lgP r [] = r := by
  show max (r + 0) 0 = r
  omega
theorem lgP_blank (r : Nat) (t : List Nat) : lgP r (32 :: t) = max r (lgP 0 t) := by
  unfold lgP
  obtain ⟨p, ps, e⟩ := cut_ne 32 t
  rw [cut_hit, e]
  show max (r + 0) (max p.length _) = max r (max (0 + p.length) _)
  rw [Nat.zero_add, Nat.add_zero]
theorem lgP_sign {r c : Nat} {t : List Nat} (h : c ≠ 32) : lgP r (c :: t) = lgP (r + 1) t := by
  unfold lgP
  obtain ⟨p, ps, e⟩ := cut_ne 32 t
  rw [cut_miss h e, e]
  show max (r + (p.length + 1)) _ = max (r + 1 + p.length) _
  rw [show r + (p.length + 1) = r + 1 + p.length by omega]
theorem lgP_ge (r : Nat) (t : List Nat) : r ≤ lgP r t := by
  unfold lgP
  obtain ⟨p, ps, e⟩ := cut_ne 32 t
  rw [e]
  show r ≤ max (r + p.length) _
  omega
theorem lgM_cut : ∀ (x : List Nat) (r m : Nat), r ≤ m → ∀ p ps, cut 10 x = p :: ps → lgM r m x = max m (max (lgP r p) (maxN (ps.map (lgP 0))))
  | [], r, m, hr, p, ps, e => by
    cases e
    rw [lgP_nil]
    show m = max m (max r 0)
    omega
  | c :: t, r, m, hr, p, ps, e => by
    obtain ⟨p', ps', e'⟩ := cut_ne 10 t
    by_cases h : c = 10
    · subst h
      rw [cut_hit, e'] at e
      cases e
      show lgM 0 (max m 0) t = _
      rw [lgM_cut t 0 (max m 0) (Nat.zero_le _) p' ps' e', lgP_nil]
      show max (max m 0) (max (lgP 0 p') _) = max m (max r (max (lgP 0 p') _))
      omega
    · rw [cut_miss h e'] at e
      cases e
      by_cases hb : c = 32
      · subst hb
        show lgM 0 (max m 0) t = _
        rw [lgM_cut t 0 (max m 0) (Nat.zero_le _) p' ps e', lgP_blank]
        omega
      · show lgM (if c = 32 ∨ c = 10 then 0 else r + 1) (max m (if c = 32 ∨ c = 10 then 0 else r + 1)) t = _
        rw [if_neg (by simp [h, hb]), lgM_cut t (r + 1) (max m (r + 1)) (by omega) p' ps e', lgP_sign hb]
        have := lgP_ge (r + 1) p'
        omega
theorem maxN_flat : ∀ l : List (List Nat), maxN ((l.flatMap wordsL).map List.length) = maxN (l.map (lgP 0))
  | [] => rfl
  | x :: l => by
    rw [List.flatMap_cons, List.map_append, maxN_append, maxN_flat l, ← lgP_words]; rfl
theorem long_M (x : List Nat) : longL x = lgM 0 0 x := by
  unfold longL
  obtain ⟨p, ps, e⟩ := cut_ne 10 x
  rw [lgM_cut x 0 0 (Nat.le_refl _) p ps e, maxN_flat, e]
  show max (lgP 0 p) _ = max 0 (max (lgP 0 p) _)
  omega
/-! the wish -/
def joined (l : List Nat) : List Nat := TL.joinL [32] (wordsL l)
def wishL (x : List Nat) : Nat := maxN ((cut 10 x).map fun p => (joined p).length)
def worth (l w : Nat) : Nat := l + (w - 1)
/-- sign by sign: the letters, the words, whether a word's end is ahead, the most -/
def wsM : Nat → Nat → Bool → Nat → List Nat → Nat
  | _, _, _, m, [] => m
  | l, w, b, m, c :: t => if c = 10 then wsM 0 0 true (max m 0) t
    else if c = 32 then wsM l w true (max m (worth l w)) t
    else wsM (l + 1) (w + (if b then 1 else 0)) false (max m (worth (l + 1) (w + (if b then 1 else 0)))) t
def begs : Bool → List Nat → Nat
  | _, [] => 0
  | b, c :: t => if c = 32 then begs true t else (if b then 1 else 0) + begs false t
def lets (l : List Nat) : Nat := (l.filter (· ≠ 32)).length
theorem begs_cut : ∀ (t : List Nat) (p : List Nat) (ps : List (List Nat)), cut 32 t = p :: ps → begs false t = (ps.filter (!·.isEmpty)).length ∧ begs true t = ((p :: ps).filter (!·.isEmpty)).length
  | [], p, ps, e => by cases e; exact ⟨rfl, rfl⟩
  | c :: t, p, ps, e => by
    obtain ⟨p', ps', e'⟩ := cut_ne 32 t
    have ih := begs_cut t p' ps' e'
    by_cases h : c = 32
    · subst h
      rw [cut_hit, e'] at e
      cases e
      exact ⟨ih.2, ih.2⟩
    · rw [cut_miss h e'] at e
      cases e
      refine ⟨?_, ?_⟩
      · show (if c = 32 then begs true t else 0 + begs false t) = _
        rw [if_neg h, ih.1]; omega
      · show (if c = 32 then begs true t else 1 + begs false t) = _
        rw [if_neg h, ih.1]
        show 1 + _ = (List.filter _ ((c :: p') :: ps)).length
        rw [List.filter_cons_of_pos (by rfl), List.length_cons]; omega
theorem lets_cut : ∀ (t : List Nat), ((cut 32 t).map List.length).sum = lets t
  | [] => rfl
  | c :: t => by
    have ih := lets_cut t
    obtain ⟨p, ps, e⟩ := cut_ne 32 t
    by_cases h : c = 32
    · subst h
      rw [cut_hit, List.map_cons, List.sum_cons, ih]
      show 0 + lets t = lets (32 :: t)
      unfold lets
      rw [List.filter_cons_of_neg (by simp)]; omega
    · rw [cut_miss h e]
      rw [e] at ih
      show (p.length + 1) + (ps.map List.length).sum = _
      have ih : p.length + (ps.map List.length).sum = lets t := ih
      unfold lets
      rw [List.filter_cons_of_pos (by simp [h]), List.length_cons]
      unfold lets at ih
      omega
theorem sum_filter : ∀ l : List (List Nat), ((l.filter (!·.isEmpty)).map List.length).sum = (l.map List.length).sum
  | [] => rfl
  | [] :: l => by
    show ((l.filter _).map _).sum = 0 + (l.map List.length).sum
    rw [sum_filter l]; omega
  | (a :: p) :: l => by
    rw [List.filter_cons_of_pos (by rfl), List.map_cons, List.map_cons, List.sum_cons, List.sum_cons, sum_filter l]
theorem joinL_len (s : Nat) : ∀ l : List (List Nat), (TL.joinL [s] l).length = (l.map List.length).sum + (l.length - 1)
  | [] => rfl
  | [p] => by show p.length = (p.length + 0) + 0; omega
  | p :: q :: r => by
    have ih := joinL_len s (q :: r)
    show (p ++ ([s] ++ TL.joinL [s] (q :: r))).length = (p.length + ((q :: r).map List.length).sum) + ((q :: r).length + 1 - 1)
    rw [List.length_append, List.length_append, ih]
    show p.length + (1 + _) = _
    have : (q :: r).length = r.length + 1 := rfl
    omega
theorem joined_len (p : List Nat) : (joined p).length = worth (lets p) (begs true p) := by
  obtain ⟨h, ts, e⟩ := cut_ne 32 p
  unfold joined
  rw [joinL_len]
  unfold wordsL
  rw [sum_filter, lets_cut, (begs_cut p h ts e).2, e]; rfl
/-- a part's worth, from letters, words and what is ahead -/
def wsP (l w : Nat) (b : Bool) (p : List Nat) : Nat := worth (l + lets p) (w + begs b p)
theorem worth_mono {l l' w w' : Nat} (h1 : l ≤ l') (h2 : w ≤ w') : worth l w ≤ worth l' w' := by unfold worth; omega
theorem wsM_cut : ∀ (x : List Nat) (l w : Nat) (b : Bool) (m : Nat), worth l w ≤ m → ∀ p ps, cut 10 x = p :: ps → wsM l w b m x = max m (max (wsP l w b p) (maxN (ps.map fun p => wsP 0 0 true p)))
  | [], l, w, b, m, hm, p, ps, e => by
    cases e
    show m = max m (max (worth (l + 0) (w + 0)) 0)
    rw [Nat.add_zero, Nat.add_zero]; omega
  | c :: t, l, w, b, m, hm, p, ps, e => by
    obtain ⟨p', ps', e'⟩ := cut_ne 10 t
    by_cases h : c = 10
    · subst h
      rw [cut_hit, e'] at e
      cases e
      show wsM 0 0 true (max m 0) t = _
      rw [wsM_cut t 0 0 true (max m 0) (by unfold worth; omega) p' ps' e']
      show max (max m 0) (max (wsP 0 0 true p') _) = max m (max (worth (l + 0) (w + 0)) (max (wsP 0 0 true p') _))
      rw [Nat.add_zero, Nat.add_zero]; omega
    · rw [cut_miss h e'] at e
      cases e
      by_cases hb : c = 32
      · subst hb
        show wsM l w true (max m (worth l w)) t = _
        rw [wsM_cut t l w true _ (by omega) p' ps e']
        have e1 : wsP l w b (32 :: p') = wsP l w true p' := by
          unfold wsP lets
          rw [List.filter_cons_of_neg (by simp)]
          rfl
        rw [e1]; omega
      · show (if c = 10 then wsM 0 0 true (max m 0) t else if c = 32 then wsM l w true (max m (worth l w)) t else wsM (l + 1) (w + (if b then 1 else 0)) false (max m (worth (l + 1) (w + (if b then 1 else 0)))) t) = _
        rw [if_neg h, if_neg hb, wsM_cut t (l + 1) _ false _ (by omega) p' ps e']
        have e1 : wsP l w b (c :: p') = wsP (l + 1) (w + (if b then 1 else 0)) false p' := by
          unfold wsP lets
          rw [List.filter_cons_of_pos (by simp [hb]), List.length_cons]
          show worth _ (w + (if c = 32 then begs true p' else (if b then 1 else 0) + begs false p')) = _
          rw [if_neg hb, show l + ((p'.filter (· ≠ 32)).length + 1) = l + 1 + (p'.filter (· ≠ 32)).length by omega, Nat.add_assoc w]
        have e2 : worth (l + 1) (w + (if b then 1 else 0)) ≤ wsP (l + 1) (w + (if b then 1 else 0)) false p' := worth_mono (by omega) (by omega)
        rw [e1]; omega
theorem wish_M (x : List Nat) : wishL x = wsM 0 0 true 0 x := by
  obtain ⟨p, ps, e⟩ := cut_ne 10 x
  rw [wsM_cut x 0 0 true 0 (by unfold worth; omega) p ps e]
  have e1 : ∀ q, (joined q).length = wsP 0 0 true q := fun q => by
    rw [joined_len]; unfold wsP; rw [Nat.zero_add, Nat.zero_add]
  unfold wishL
  rw [e]
  show max (joined p).length (maxN (ps.map fun p => (joined p).length)) = _
  rw [e1 p, show (fun p => (joined p).length) = (fun p => wsP 0 0 true p) from funext e1]; omega
theorem long_append (a b : List Nat) : longL (a ++ 10 :: b) = max (longL a) (longL b) := by
  unfold longL
  rw [cut_append, List.flatMap_append, List.map_append, maxN_append]
theorem wish_append (a b : List Nat) : wishL (a ++ 10 :: b) = max (wishL a) (wishL b) := by
  unfold wishL
  rw [cut_append, List.map_append, maxN_append]
/-! more blanks -/
def rep2 : List Nat → List Nat
  | [] => []
  | c :: t => if c = 32 then 32 :: 32 :: rep2 t else c :: rep2 t
theorem rep2_cut : ∀ x : List Nat, TL.joinL [32, 32] (cut 32 x) = rep2 x
  | [] => rfl
  | c :: t => by
    have ih := rep2_cut t
    obtain ⟨p, ps, e⟩ := cut_ne 32 t
    by_cases h : c = 32
    · subst h
      rw [cut_hit]
      rw [e] at ih ⊢
      show [] ++ ([32, 32] ++ TL.joinL [32, 32] (p :: ps)) = 32 :: 32 :: rep2 t
      rw [ih]; rfl
    · rw [cut_miss h e]
      rw [e] at ih
      have e2 : rep2 (c :: t) = c :: rep2 t := by
        show (if c = 32 then _ else _) = _
        rw [if_neg h]
      rw [e2, ← ih]
      cases ps <;> rfl
theorem rep2_len : ∀ x : List Nat, (rep2 x).length ≤ 2 * x.length
  | [] => Nat.le_refl _
  | c :: t => by
    have ih := rep2_len t
    show (if c = 32 then 32 :: 32 :: rep2 t else c :: rep2 t).length ≤ 2 * (t.length + 1)
    split
    · rw [List.length_cons, List.length_cons]; omega
    · rw [List.length_cons]; omega
theorem lgM_rep : ∀ (x : List Nat) (r m : Nat), lgM r m (rep2 x ++ [32, 32]) = lgM r m x
  | [], r, m => by
    show max (max m 0) 0 = m
    omega
  | c :: t, r, m => by
    by_cases h : c = 32
    · subst h
      show lgM 0 (max (max m 0) 0) (rep2 t ++ [32, 32]) = lgM 0 (max m 0) t
      rw [show max (max m 0) 0 = max m 0 by omega]
      exact lgM_rep t 0 _
    · show lgM r m ((if c = 32 then 32 :: 32 :: rep2 t else c :: rep2 t) ++ [32, 32]) = _
      rw [if_neg h]
      exact lgM_rep t _ _
theorem wsM_rep : ∀ (x : List Nat) (l w : Nat) (b : Bool) (m : Nat), worth l w ≤ m → wsM l w b m (rep2 x ++ [32, 32]) = wsM l w b m x
  | [], l, w, b, m, hm => by
    show max (max m (worth l w)) (worth l w) = m
    omega
  | c :: t, l, w, b, m, hm => by
    by_cases h : c = 32
    · subst h
      show wsM l w true (max (max m (worth l w)) (worth l w)) (rep2 t ++ [32, 32]) = wsM l w true (max m (worth l w)) t
      rw [show max (max m (worth l w)) (worth l w) = max m (worth l w) by omega]
      exact wsM_rep t l w true _ (by omega)
    · show wsM l w b m ((if c = 32 then 32 :: 32 :: rep2 t else c :: rep2 t) ++ [32, 32]) = _
      rw [if_neg h]
      show (if c = 10 then wsM 0 0 true (max m 0) (rep2 t ++ [32, 32]) else if c = 32 then wsM l w true (max m (worth l w)) (rep2 t ++ [32, 32]) else wsM (l + 1) (w + (if b then 1 else 0)) false (max m (worth (l + 1) (w + (if b then 1 else 0)))) (rep2 t ++ [32, 32])) = (if c = 10 then wsM 0 0 true (max m 0) t else if c = 32 then wsM l w true (max m (worth l w)) t else wsM (l + 1) (w + (if b then 1 else 0)) false (max m (worth (l + 1) (w + (if b then 1 else 0)))) t)
      by_cases h10 : c = 10
      · rw [if_pos h10, if_pos h10]
        exact wsM_rep t 0 0 true _ (by unfold worth; omega)
      · rw [if_neg h10, if_neg h10, if_neg h, if_neg h]
        exact wsM_rep t _ _ false _ (by omega)
def wideL (x : List Nat) : List Nat := 32 :: (rep2 x ++ [32, 32])
theorem long_wide (x : List Nat) : longL (wideL x) = longL x := by
  rw [long_M, long_M]
  exact lgM_rep x 0 0
theorem wish_wide (x : List Nat) : wishL (wideL x) = wishL x := by
  rw [wish_M, wish_M]
  exact wsM_rep x 0 0 true 0 (by unfold worth; omega)
theorem replace_rep (x : List Nat) : Txt.replace (sO x) " " "  " = sO (rep2 x) := by
  have h := StrLaws.replace_one (sO x) "  " 32
  have e1 : (⟨#[32]⟩ : Str) = " " := by decide +kernel
  have e2 : ("  " : Str) = sO [32, 32] := by decide +kernel
  rw [split_cut (by decide), e2, ← TL.join_eq, join_sO, rep2_cut] at h
  rw [← e1, e2]
  exact h
theorem max_cast (a b : Nat) : (if (a : Int) > (b : Int) then (a : Int) else (b : Int)) = ((max b a : Nat) : Int) := by
  split <;> omega
theorem worth_cast (le wo : Nat) : ((le : Int) + if (wo : Int) - 1 > 0 then (wo : Int) - 1 else 0) = ((worth le wo : Nat) : Int) := by
  unfold worth
  split <;> omega
theorem lgM_end {r m c : Nat} {t : List Nat} (e : c = 32 ∨ c = 10) : lgM r m (c :: t) = lgM 0 (max m 0) t := by
  show lgM (if c = 32 ∨ c = 10 then 0 else r + 1) (max m (if c = 32 ∨ c = 10 then 0 else r + 1)) t = _
  rw [if_pos e]
theorem lgM_run {r m c : Nat} {t : List Nat} (e : ¬ (c = 32 ∨ c = 10)) : lgM r m (c :: t) = lgM (r + 1) (max m (r + 1)) t := by
  show lgM (if c = 32 ∨ c = 10 then 0 else r + 1) (max m (if c = 32 ∨ c = 10 then 0 else r + 1)) t = _
  rw [if_neg e]
theorem wsM_feed {l w m c : Nat} {b : Bool} {t : List Nat} (e : c = 10) : wsM l w b m (c :: t) = wsM 0 0 true (max m (worth 0 0)) t := by subst e; rfl
theorem wsM_blank {l w m c : Nat} {b : Bool} {t : List Nat} (e : ¬ c = 10) (e2 : c = 32) : wsM l w b m (c :: t) = wsM l w true (max m (worth l w)) t := by subst e2; rfl
theorem wsM_sign {l w m c : Nat} {b : Bool} {t : List Nat} (e : ¬ c = 10) (e2 : ¬ c = 32) : wsM l w b m (c :: t) = wsM (l + 1) (w + (if b then 1 else 0)) false (max m (worth (l + 1) (w + (if b then 1 else 0)))) t := by
  show (if c = 10 then _ else if c = 32 then _ else _) = _
  rw [if_neg e, if_neg e2]
theorem cut_sum (c : Nat) : ∀ l : List Nat, ((cut c l).map List.length).sum ≤ l.length
  | [] => Nat.le_refl _
  | d :: r => by
    have ih := cut_sum c r
    obtain ⟨p, ps, e⟩ := cut_ne c r
    by_cases h : d = c
    · subst h
      rw [cut_hit, List.map_cons, List.sum_cons, List.length_cons]
      show 0 + _ ≤ _
      omega
    · rw [cut_miss h e, List.map_cons, List.sum_cons, List.length_cons, List.length_cons]
      rw [e, List.map_cons, List.sum_cons] at ih
      omega
theorem mem_sum {l : List (List Nat)} {p : List Nat} (h : p ∈ l) : p.length ≤ (l.map List.length).sum := by
  induction l with
  | nil => cases h
  | cons a l ih =>
    rw [List.map_cons, List.sum_cons]
    rcases List.mem_cons.mp h with rfl | h
    · omega
    · have := ih h; omega
theorem words_sum (p : List Nat) : ((wordsL p).map List.length).sum ≤ p.length := by
  unfold wordsL
  rw [sum_filter]
  exact cut_sum 32 p
theorem words_pos {p w : List Nat} (h : w ∈ wordsL p) : 0 < w.length := by
  have := (List.mem_filter.mp h).2
  cases w with
  | nil => cases this
  | cons a w => exact Nat.succ_pos _
theorem count_sum : ∀ {l : List (List Nat)}, (∀ w ∈ l, 0 < w.length) → l.length ≤ (l.map List.length).sum
  | [], _ => Nat.le_refl _
  | w :: l, h => by
    have h1 := h w (List.mem_cons_self ..)
    have h2 := count_sum fun y hy => h y (List.mem_cons_of_mem _ hy)
    rw [List.map_cons, List.sum_cons, List.length_cons]; omega
theorem words_count (p : List Nat) : (wordsL p).length ≤ p.length := Nat.le_trans (count_sum fun _ h => words_pos h) (words_sum p)
theorem flat_count : ∀ l : List (List Nat), (l.flatMap wordsL).length ≤ (l.map List.length).sum
  | [] => Nat.le_refl _
  | p :: l => by
    rw [List.flatMap_cons, List.length_append, List.map_cons, List.sum_cons]
    have h1 := words_count p
    have h2 := flat_count l
    omega
theorem part_len {c : Nat} {l p : List Nat} (h : p ∈ cut c l) : p.length ≤ l.length := Nat.le_trans (mem_sum h) (cut_sum c l)
theorem flat_take (f : List Nat → List (List Nat)) (l : List (List Nat)) (i : Nat) : ((l.take i).flatMap f).length ≤ (l.flatMap f).length := by
  conv => rhs; rw [← List.take_append_drop i l]
  rw [List.flatMap_append, List.length_append]; omega
theorem maxN_ge : ∀ {l : List Nat} {k : Nat}, k ∈ l → k ≤ maxN l
  | a :: l, k, h => by
    show k ≤ max a (maxN l)
    rcases List.mem_cons.mp h with rfl | h
    · omega
    · have := maxN_ge h; omega
theorem maxN_le : ∀ {l : List Nat} {m : Nat}, (∀ k ∈ l, k ≤ m) → maxN l ≤ m
  | [], m, _ => Nat.zero_le _
  | a :: l, m, h => by
    show max a (maxN l) ≤ m
    have h1 := h a (List.mem_cons_self ..)
    have h2 := maxN_le fun k hk => h k (List.mem_cons_of_mem _ hk)
    omega
theorem maxN_of {l : List Nat} {m : Int} (h : m ∈ l.map Int.ofNat) (g : ∀ y ∈ l.map Int.ofNat, y ≤ m) : m = ((maxN l : Nat) : Int) := by
  obtain ⟨k, hk, rfl⟩ := List.mem_map.mp h
  have h1 := maxN_ge hk
  have h2 : maxN l ≤ k := maxN_le fun j hj => by
    have := g _ (List.mem_map.mpr ⟨j, hj, rfl⟩)
    exact Int.ofNat_le.mp this
  show ((k : Nat) : Int) = _
  omega
/-! the signs of words -/
def alphL : List Nat := (Str.ofString "!\"#$&'()*+,-./0123456789:;<=>?@ABCDEFGHIJKLMNOPQRSTUVWXYZ[\\]^_`abcdefghijklmnopqrstuvwxyz{}~").cps.toList
theorem alph_len : alphL.length = 92 := by decide +kernel
theorem alph_ok : ∀ c ∈ alphL, 33 ≤ c ∧ c < 127 := by decide +kernel
def signL (f s : Int) (k : Nat) : Nat := alphL.getD ((f + s * (k : Int)) % 92).toNat 33
theorem signL_at (f s : Int) (k : Nat) : atI alphL ((f + s * (k : Int)) % 92) = some (signL f s k) := by
  have h0 := Int.emod_nonneg (f + s * (k : Int)) (b := 92) (by decide)
  have h1 := Int.emod_lt_of_pos (f + s * (k : Int)) (b := 92) (by decide)
  unfold signL
  generalize (f + s * (k : Int)) % 92 = i at h0 h1
  obtain ⟨j, rfl⟩ := Int.eq_ofNat_of_zero_le h0
  have hj : j < alphL.length := by rw [alph_len]; omega
  unfold atI
  rw [ixN_nat hj, Int.toNat_natCast, List.getD_eq_getElem?_getD, List.getElem?_eq_getElem hj]
  exact List.getElem?_eq_getElem hj
theorem signL_ok (f s : Int) (k : Nat) : 33 ≤ signL f s k ∧ signL f s k < 127 := by
  have h := signL_at f s k
  unfold atI at h
  obtain ⟨j, _, hj⟩ := Option.bind_eq_some_iff.mp h
  exact alph_ok _ (List.mem_of_getElem? hj)
theorem joinL_signs : ∀ l : List Nat, TL.joinL [] (l.map fun c => [c]) = l
  | [] => rfl
  | [c] => rfl
  | c :: d :: l => by
    show [c] ++ ([] ++ TL.joinL [] ((d :: l).map fun c => [c])) = _
    rw [joinL_signs (d :: l)]; rfl
end My

/-! ### rules for texts -/
namespace My
open PySem PySem.Spec PyProof.Rows L2
section
variable {X : Cx}
/-- c * n -/
def rRepS : R2 := fun x y H Q => ∃ (c : Nat) (n : Nat), x = .str ⟨#[c]⟩ ∧ y = .int (n : Int) ∧ 1 ≤ n ∧ n ≤ 1000 ∧ Q (.str (sO (List.replicate n c))) H
theorem fold_rep (c : Nat) : ∀ (n : Nat) (acc : Array Nat), ((List.replicate n #[c]).foldl (· ++ ·) acc) = (acc.toList ++ List.replicate n c).toArray
  | 0, acc => by simp
  | n + 1, acc => by
    rw [List.replicate_succ, List.foldl_cons, fold_rep c n]
    simp [List.replicate_succ]
theorem op_repS : OpR X (binaryOp .Mult) rRepS := by
  intro pins s σ H x y v u Q I rx ry h
  obtain ⟨c, n, rfl, rfl, n1, n2, q⟩ := h
  obtain ⟨t, rfl⟩ := rx
  obtain ⟨t', rfl⟩ := ry
  refine P.mul_str ?_ (fun _ _ => ?_) (fun _ _ => ?_) ?_
  · rw [decide_eq_false (by omega), decide_eq_false (by omega)]; rfl
  · show ¬ (((#[c] : Array Nat).size : Int) > _)
    have h1 : (n : Int) ≤ 1000 := by omega
    have h2 : 1 ≤ (2 ^ 63 - 1 : Int) / (n : Int) := by
      apply Int.le_ediv_of_mul_le (by omega)
      omega
    show ¬ ((1 : Nat) : Int) > _
    omega
  · show PySem.Builtin.Str.tooLong (1 * (n : Int).toNat) = false
    unfold PySem.Builtin.Str.tooLong
    exact decide_eq_false (by rw [sizeLine_eq]; simp; omega)
  · rw [if_neg (by omega)]
    have e : (⟨(List.replicate (n : Int).toNat (⟨#[c]⟩ : Str).cps).foldl (· ++ ·) #[]⟩ : Str) = sO (List.replicate n c) := by
      rw [Int.toNat_natCast]
      show (⟨(List.replicate n #[c]).foldl (· ++ ·) #[]⟩ : Str) = _
      rw [fold_rep]; simp [sO]
    split
    · rename_i h
      have hn : n = 1 := by
        have : ((⟨#[c]⟩ : Str).length == 0) = false := rfl
        rw [this, Bool.or_false] at h
        have := eq_of_beq h
        omega
      subst hn
      exact ⟨.str (sO [c]), H, I, ⟨t, rfl⟩, q⟩
    · rw [e]
      refine ⟨?_, .str _, H, I.tok _, ⟨_, rfl⟩, q⟩
      show (List.replicate n c).toArray.size ≤ sizeLine
      rw [List.size_toArray, List.length_replicate, sizeLine_eq]; omega
/-- x.split(c): a new list of the parts -/
theorem mt_splitN : MtR X "str.split" (fun x xs H Q => ∃ (l : List Nat) (c : Nat), x = .str (sO l) ∧ xs = [.str ⟨#[c]⟩] ∧ c < 256 ∧ l.length + 2 ≤ sizeLine ∧ New H (.lst ((cut c l).map fun p => .str (sO p))) Q) := by
  intro pins s σ H x xs v us Q I rx rs h
  obtain ⟨l, c, rfl, rfl, hc, hl, q⟩ := h
  refine mt_split pins s σ H _ _ v us Q I rx rs ⟨sO l, ⟨#[c]⟩, rfl, rfl, rfl, hl, fun p hp => ?_⟩
  rw [split_cut hc, List.map_map]
  exact q.go p hp
theorem pe_splitN {o e : Expr} {to te : TE} {apos pos : Pos} (ho : PE X o to) (he : PE X e te) (hs : starEach [e] X.env = [(false, eval e X.env)] := by rfl) (hbase : attributeBase o "split" X.env (eval o X.env) = eval o X.env := by rfl) (hline : (apos.endLine == pos.line) = true := by rfl) :
    PE X (.Call (.Attribute o "split" apos) [e] [] pos) (tM1 (fun x xs H Q => ∃ (l : List Nat) (c : Nat), x = .str (sO l) ∧ xs = [.str ⟨#[c]⟩] ∧ c < 256 ∧ l.length + 2 ≤ sizeLine ∧ New H (.lst ((cut c l).map fun p => .str (sO p))) Q) to te) :=
  pe_m1 PySem.F.slot_str_split PySem.F.type_str_split mt_splitN ho he hs hbase hline
/-- sep.join(list of texts) -/
theorem mt_joinN {K : PySem.W.Frag} (hK : X.K = K) : MtR X "str.join" (fun x xs H Q => ∃ (a : List Nat) (p : Addr) (ys : List (List Nat)), x = .str (sO a) ∧ xs = [.ref p] ∧ SqL K H p (ys.map fun y => V.str (sO y)) ∧ (ys.map List.length).sum + ys.length * a.length ≤ 16777216 ∧ Q (.str (sO (TL.joinL a ys))) H) := by
  intro pins s σ H x xs v us Q I rx rs h
  obtain ⟨a, p, ys, rfl, rfl, hp, hz, q⟩ := h
  subst hK
  refine mt_join pins s σ H _ _ v us Q I rx rs ⟨sO a, p, ys.map sO, rfl, rfl, .inl (by rw [List.map_map]; exact hp), ?_, ?_⟩
  · rw [List.map_map, List.length_map]; exact hz
  · rw [join_sO]; exact q
theorem pe_joinN {K : PySem.W.Frag} (hK : X.K = K) {o e : Expr} {to te : TE} {apos pos : Pos} (ho : PE X o to) (he : PE X e te) (hs : starEach [e] X.env = [(false, eval e X.env)] := by rfl) (hbase : attributeBase o "join" X.env (eval o X.env) = eval o X.env := by rfl) (hline : (apos.endLine == pos.line) = true := by rfl) :
    PE X (.Call (.Attribute o "join" apos) [e] [] pos) (tM1 (fun x xs H Q => ∃ (a : List Nat) (p : Addr) (ys : List (List Nat)), x = .str (sO a) ∧ xs = [.ref p] ∧ SqL K H p (ys.map fun y => V.str (sO y)) ∧ (ys.map List.length).sum + ys.length * a.length ≤ 16777216 ∧ Q (.str (sO (TL.joinL a ys))) H) to te) :=
  pe_m1 PySem.F.slot_str_join PySem.F.type_str_join (mt_joinN hK) ho he hs hbase hline
/-- 'c' op e where e wants a token -/
theorem pe_opT {op : Operator} {r : R2} {c : Str} {j : Nat} {p pos : Pos} {f : Expr} {tf : TE} (ho : OpR X (binaryOp op) r) (hb : PET X f tf) : PE X (.BinOp (.Constant (.str c) j p) op f pos) (tOp r (tC (.str c)) tf) := by
  refine ⟨fun pins s σ H Q I h => ?_⟩
  refine wpAny_BinOp (PySem.Calls.Constant_str ?_)
  exact thn (hb pins _ σ H _ (Nat.succ_le_succ (Nat.zero_le _)) (I.tok _) h) fun u s2 ⟨y, H2, I2, r2, q2⟩ => ho pins s2 σ H2 (.str c) y _ u Q I2 ⟨_, rfl⟩ r2 q2
end
/-! #### walks -/
theorem it_list {K : PySem.W.Frag} {a : Addr} {xs : List V} {Qd : Hp → Prop} {Body : (Hp → Prop) → V → Hp → Prop} {H0 : Hp} (Pv : Nat → Hp → Prop) (h0 : Pv 0 H0) (hl : ∀ i H, i ≤ xs.length → Pv i H → SqL K H a xs)
    (hs : ∀ i x H, xs[i]? = some x → Pv i H → Body (Pv (i + 1)) x H) (hd : ∀ H, Pv xs.length H → Qd H) :
    ∃ W : Nat → Nat → Hp → Prop, (∃ m, W 0 m H0) ∧ ∀ i m H, W i m H →
      ((Itl K a).stop i H ∧ Qd H) ∨ ((Itl K a).go i H ∧ ∃ Nx : Hp → Prop, (∀ H', Nx H' → ∃ m', m' < m ∧ W (i + 1) m' H') ∧ ∀ x H', (Itl K a).yld i H x H' → Body Nx x H') := by
  refine ⟨fun i m H => m = xs.length - i ∧ i ≤ xs.length ∧ Pv i H, ⟨xs.length, by simp, Nat.zero_le _, h0⟩, ?_⟩
  rintro i m H ⟨rfl, hi, p⟩
  have q := hl i H hi p
  by_cases hlt : i < xs.length
  · refine .inr ⟨⟨xs, xs[i], q, by simp [hlt]⟩, Pv (i + 1), fun H' p' => ⟨xs.length - (i + 1), by omega, rfl, hlt, p'⟩, fun x H' y => ?_⟩
    obtain ⟨e, y⟩ := y
    subst e
    exact hs i x _ (y xs q) p
  · have e : i = xs.length := by omega
    subst e
    exact .inl ⟨⟨xs, q, Nat.le_refl _⟩, hd H p⟩
/-- for c in a text -/
theorem for_str {l : List Nat} {g : TG} {tb : TS} {D : Ends} {σ : L2.St} {H : Hp} (Pv : Nat → L2.St → Hp → Prop) (h0 : Pv 0 σ H)
    (hs : ∀ i c σ H, l[i]? = some c → Pv i σ H → g (.str ⟨#[c]⟩) σ H fun σ2 H2 => tb { D with nx := Pv (i + 1), ct := Pv (i + 1), bk := D.nx } σ2 H2) (hd : ∀ σ H, Pv l.length σ H → D.nx σ H) :
    ∃ W : Nat → Nat → L2.St → Hp → Prop, (∃ m, W 0 m σ H) ∧ ∀ i m σ H, W i m σ H →
      ((Its (sO l)).stop i H ∧ D.nx σ H) ∨ ((Its (sO l)).go i H ∧ ∃ N : L2.St → Hp → Prop, (∀ σ' H', N σ' H' → ∃ m', m' < m ∧ W (i + 1) m' σ' H') ∧ ∀ x H', (Its (sO l)).yld i H x H' → g x σ H' fun σ2 H2 => tb { D with nx := N, ct := N, bk := D.nx } σ2 H2) := by
  refine ⟨fun i m σ H => m = l.length - i ∧ i ≤ l.length ∧ Pv i σ H, ⟨l.length, by simp, Nat.zero_le _, h0⟩, ?_⟩
  rintro i m σ H ⟨rfl, hi, p⟩
  by_cases hlt : i < l.length
  · refine .inr ⟨?_, Pv (i + 1), fun σ' H' p' => ⟨l.length - (i + 1), by omega, rfl, hlt, p'⟩, fun x H' y => ?_⟩
    · show i < l.toArray.size
      rw [List.size_toArray]; exact hlt
    · obtain ⟨rfl, c, hc, rfl⟩ := y
      have hc : l.toArray[i]? = some c := hc
      rw [List.getElem?_toArray] at hc
      exact hs i c σ _ hc p
  · have e : i = l.length := by omega
    subst e
    refine .inl ⟨?_, hd σ H p⟩
    show l.toArray.size ≤ l.length
    rw [List.size_toArray]; exact Nat.le_refl _
/-! #### written texts -/
theorem blank_eq : Str.ofString " " = ⟨#[32]⟩ := by decide +kernel
theorem feed_eq : Str.ofString "\n" = ⟨#[10]⟩ := by decide +kernel
theorem ends_eq : Str.ofString " \n" = sO [32, 10] := by decide +kernel
theorem empty_eq : Str.ofString "" = sO [] := by decide +kernel
theorem str_inj_dec {l m : List Nat} : decide (V.str (sO l) = V.str (sO m)) = decide (l = m) := decide_eq_decide.mpr ⟨fun e => by
  have := congrArg (fun v => match v with | V.str x => x.cps.toList | _ => []) e
  simpa [sO] using this, fun e => by rw [e]⟩
theorem empty_dec {l : List Nat} : decide (V.str (sO l) = V.str (Str.ofString "")) = l.isEmpty := by
  rw [empty_eq, str_inj_dec]
  cases l <;> rfl
theorem sign_dec {c d : Nat} : decide (V.str ⟨#[c]⟩ = V.str ⟨#[d]⟩) = decide (c = d) := by
  have := str_inj_dec (l := [c]) (m := [d])
  rw [show (V.str ⟨#[c]⟩) = V.str (sO [c]) from rfl, show (V.str ⟨#[d]⟩) = V.str (sO [d]) from rfl, this]
  exact decide_eq_decide.mpr ⟨fun e => by cases e; rfl, fun e => by rw [e]⟩
theorem feed_dec {c : Nat} : decide (V.str ⟨#[c]⟩ = V.str (Str.ofString "\n")) = decide (c = 10) := by rw [feed_eq, sign_dec]
theorem blank_dec {c : Nat} : decide (V.str ⟨#[c]⟩ = V.str (Str.ofString " ")) = decide (c = 32) := by rw [blank_eq, sign_dec]
theorem ends_dec {c : Nat} : decide (c ∈ (Str.ofString " \n").cps.toList) = decide (c = 32 ∨ c = 10) := by
  rw [ends_eq]
  exact decide_eq_decide.mpr (by simp [sO])
theorem sO_append (a b : List Nat) : sO a ++ sO b = sO (a ++ b) := by
  show (⟨a.toArray ++ b.toArray⟩ : Str) = ⟨(a ++ b).toArray⟩
  simp
theorem sO_len (l : List Nat) : (sO l).length = l.length := by
  show l.toArray.size = _
  rw [List.size_toArray]
theorem cutS_take (l : List Nat) (m : Nat) : cutS (sO l) none (some (m : Int)) = sO (l.take m) := by
  unfold cutS
  rw [HT.sIx_none, HT.sIx_nat, Nat.sub_zero, List.drop_zero, sO_len]
  show sO (l.take (min m l.length)) = _
  by_cases h : m ≤ l.length
  · rw [Nat.min_eq_left h]
  · rw [Nat.min_eq_right (by omega), List.take_of_length_le (Nat.le_refl _), List.take_of_length_le (by omega)]
end My

/-! ### max(xs, default = d) of ints -/
namespace My
open PySem PySem.Spec PyProof.Rows L2
def maxDef (d : Int) : List Int → Int
  | [] => d
  | n :: ns => ns.foldl max n
def rMaxDef (K : PySem.W.Frag) : List V → List V → Hp → VK → Prop := fun vs zs H Q => ∃ (a : Addr) (ns : List Int) (d : Int), vs = [.ref a] ∧ zs = [.int d] ∧ SqL K H a (ns.map V.int) ∧ Q (.int (maxDef d ns)) H
theorem reads_ints {h : Heap} : ∀ {ns : List Int} {us : List Value}, Vals (ns.map V.int) us → ∃ as, ReadsAll h us (ns.map .int) as
  | [], _, .nil => ⟨_, .nil⟩
  | n :: ns, _, .cons r t => by
    obtain ⟨k, rfl⟩ := r
    obtain ⟨as, ha⟩ := reads_ints (h := h) t
    exact ⟨_, .cons (.int n k) ha⟩
theorem cr_maxDef {X : Cx} (hc : X.calm = true) (hu : X.A.units + 64 < cLine) : CallRK X (.builtin "max") [Str.ofString "default"] (rMaxDef X.K) := by
  intro pins s σ H vs zs us ws Q I r rz h
  obtain ⟨a, ns, d, rfl, rfl, hs, q⟩ := h
  obtain rfl := Vals.ref1 r
  obtain ⟨w1, rfl, e1⟩ := vals1 rz
  obtain ⟨tk, rfl⟩ := e1
  obtain ⟨its, rv, hl, hz⟩ := I.list hs
  obtain ⟨as, hr⟩ := reads_ints (h := s.heap) rv
  have hd : PyData.depthAll (ns.map PyData.int) ≤ 1 := depthAll_map (g := PyData.int) (m := 1) (fun x => by simp [PyData.depth]) ns
  refine PySem.W.max_list_default (I.ok.hd hc) hl.isList (by simpa using hr) ?_ (by omega) (fun e h' tk2 hk => ?_) (fun y ys i v h' tk2 bs e hv hrd hk => ?_)
  · refine ⟨fun x hx y hy => ?_, fun x hx => ?_⟩
    · obtain ⟨n, _, rfl⟩ := List.mem_map.mp hx
      obtain ⟨m, _, rfl⟩ := List.mem_map.mp hy
      rfl
    · obtain ⟨n, _, rfl⟩ := List.mem_map.mp hx
      intro z; cases z
  · cases ns with
    | nil => exact ⟨.int d, H, I.kept hk, ⟨tk, rfl⟩, q⟩
    | cons n ns => cases e
  · cases ns with
    | nil => cases e
    | cons n ns =>
      cases e
      rw [PySem.W.maxD_ints] at hrd
      obtain ⟨t, rfl, _⟩ := reads_int_inv hrd
      exact ⟨.int _, H, I.kept hk, ⟨t, rfl⟩, q⟩
theorem cr_maxDefK {X : Cx} {K : PySem.W.Frag} (hc : X.calm = true) (hu : X.A.units + 64 < cLine) (h : X.K = K) : CallRK X (.builtin "max") [Str.ofString "default"] (rMaxDef K) := by subst h; exact cr_maxDef hc hu
theorem maxDef_N (l : List Nat) : maxDef 0 (l.map Int.ofNat) = ((maxN l : Nat) : Int) := by
  cases l with
  | nil => rfl
  | cons a l =>
    show (l.map Int.ofNat).foldl max (a : Int) = _
    rw [foldl_maxN]; rfl
end My

/-! ### lines of a part, of a text, at a width -/
namespace My
open PySem L2
abbrev jn (g : List (List Nat)) : List Nat := TL.joinL [32] g
theorem jn_snoc : ∀ (g : List (List Nat)) (x : List Nat), g ≠ [] → jn (g ++ [x]) = jn g ++ 32 :: x
  | [], _, h => absurd rfl h
  | [a], x, _ => rfl
  | a :: b :: g, x, _ => by
    have ih := jn_snoc (b :: g) x (by simp)
    show a ++ ([32] ++ jn (b :: g ++ [x])) = (a ++ ([32] ++ jn (b :: g))) ++ 32 :: x
    rw [ih]; simp
theorem jn_ne {g : List (List Nat)} (h : g ≠ []) (hw : ∀ w ∈ g, 0 < w.length) : jn g ≠ [] := by
  cases g with
  | nil => exact absurd rfl h
  | cons a g =>
    have ha := hw a (List.mem_cons_self ..)
    cases a with
    | nil => cases ha
    | cons c a => cases g <;> (intro e; cases e)
/-- the lines that come of a line begun and the words behind it -/
def lnsM (w : Nat) : List (List Nat) → List Nat → List (List Nat)
  | [], line => [line]
  | x :: ws, line => if line.isEmpty then lnsM w ws x else if line.length + 1 + x.length ≤ w then lnsM w ws (line ++ 32 :: x) else line :: lnsM w ws x
def linesL (w : Nat) (p : List Nat) : List (List Nat) := lnsM w (wordsL p) []
def wrapL (w : Nat) (x : List Nat) : List (List Nat) := (cut 10 x).flatMap (linesL w)
/-! #### by groups of words -/
/-- how many of the words stand behind a line of l signs -/
def moreN (w : Nat) : Nat → List (List Nat) → Nat
  | _, [] => 0
  | l, x :: ws => if l + 1 + x.length ≤ w then moreN w (l + 1 + x.length) ws + 1 else 0
/-- how many of the words stand in one line, one at least -/
def fitN (w : Nat) : List (List Nat) → Nat
  | [] => 0
  | x :: ws => moreN w x.length ws + 1
/-- the words, line by line -/
def grpM (w : Nat) : List (List Nat) → List (List Nat) → List (List (List Nat))
  | [], g => [g]
  | x :: ws, g => if (jn g).length + 1 + x.length ≤ w then grpM w ws (g ++ [x]) else g :: grpM w ws [x]
def brk (w : Nat) : List (List Nat) → List (List (List Nat))
  | [] => []
  | x :: ws => grpM w ws [x]
theorem lnsM_grp (w : Nat) : ∀ (ws g : List (List Nat)), (∀ x ∈ ws, 0 < x.length) → g ≠ [] → (∀ x ∈ g, 0 < x.length) → lnsM w ws (jn g) = (grpM w ws g).map jn
  | [], g, _, _, _ => rfl
  | x :: ws, g, hw, hg, hgw => by
    have hx := hw x (List.mem_cons_self ..)
    have hw' := fun y hy => hw y (List.mem_cons_of_mem x hy)
    have e1 : (jn g).isEmpty = false := by
      have := jn_ne hg hgw
      cases h : jn g with
      | nil => exact absurd h this
      | cons a b => rfl
    show (if (jn g).isEmpty = true then _ else _) = _
    rw [e1, if_neg (by decide)]
    show _ = (if (jn g).length + 1 + x.length ≤ w then grpM w ws (g ++ [x]) else g :: grpM w ws [x]).map jn
    by_cases h : (jn g).length + 1 + x.length ≤ w
    · rw [if_pos h, if_pos h, ← jn_snoc g x hg]
      refine lnsM_grp w ws _ hw' (by simp) fun y hy => ?_
      rcases List.mem_append.mp hy with h | h
      · exact hgw y h
      · rw [List.mem_singleton.mp h]; exact hx
    · rw [if_neg h, if_neg h, List.map_cons]
      have := lnsM_grp w ws [x] hw' (by simp) fun y hy => by rw [List.mem_singleton.mp hy]; exact hx
      rw [← this]; rfl
/-- the lines of a part: of its words, or one without signs -/
def lineG (w : Nat) (ws : List (List Nat)) : List (List Nat) := if ws.isEmpty then [[]] else (brk w ws).map jn
theorem lines_grp (w : Nat) (p : List Nat) : linesL w p = lineG w (wordsL p) := by
  unfold linesL lineG
  have hp : ∀ x ∈ wordsL p, 0 < x.length := fun x h => words_pos h
  generalize wordsL p = ws at hp
  cases ws with
  | nil => rfl
  | cons x ws =>
    have hx := hp x (List.mem_cons_self ..)
    show lnsM w ws x = (grpM w ws [x]).map jn
    rw [← lnsM_grp w ws [x] (fun y hy => hp y (List.mem_cons_of_mem _ hy)) (by simp) fun y hy => by rw [List.mem_singleton.mp hy]; exact hx]
    rfl
theorem grpM_more (w : Nat) : ∀ (ws g : List (List Nat)), g ≠ [] → grpM w ws g = (g ++ ws.take (moreN w (jn g).length ws)) :: brk w (ws.drop (moreN w (jn g).length ws))
  | [], g, _ => by show [g] = (g ++ []) :: []; rw [List.append_nil]
  | x :: ws, g, hg => by
    show (if (jn g).length + 1 + x.length ≤ w then grpM w ws (g ++ [x]) else g :: grpM w ws [x]) = (g ++ (x :: ws).take (if (jn g).length + 1 + x.length ≤ w then moreN w ((jn g).length + 1 + x.length) ws + 1 else 0)) :: brk w ((x :: ws).drop (if (jn g).length + 1 + x.length ≤ w then moreN w ((jn g).length + 1 + x.length) ws + 1 else 0))
    by_cases h : (jn g).length + 1 + x.length ≤ w
    · have e : (jn (g ++ [x])).length = (jn g).length + 1 + x.length := by
        rw [jn_snoc g x hg, List.length_append, List.length_cons]; omega
      rw [if_pos h, if_pos h, grpM_more w ws _ (by simp), e, List.take_succ_cons, List.drop_succ_cons, List.append_assoc]; rfl
    · rw [if_neg h, if_neg h, List.take_zero, List.drop_zero, List.append_nil]; rfl
theorem brk_cons (w : Nat) {ws : List (List Nat)} (h : ws ≠ []) : brk w ws = ws.take (fitN w ws) :: brk w (ws.drop (fitN w ws)) := by
  cases ws with
  | nil => exact absurd rfl h
  | cons x ws =>
    show grpM w ws [x] = _
    rw [grpM_more w ws [x] (by simp)]; rfl
theorem moreN_le (w : Nat) : ∀ (ws : List (List Nat)) (l : Nat), moreN w l ws ≤ ws.length
  | [], l => Nat.le_refl _
  | x :: ws, l => by
    show (if l + 1 + x.length ≤ w then moreN w (l + 1 + x.length) ws + 1 else 0) ≤ ws.length + 1
    have := moreN_le w ws (l + 1 + x.length)
    split <;> omega
theorem fitN_le (w : Nat) (ws : List (List Nat)) : fitN w ws ≤ ws.length := by
  cases ws with
  | nil => exact Nat.le_refl _
  | cons x ws => exact Nat.succ_le_succ (moreN_le w ws _)
theorem fitN_pos (w : Nat) {ws : List (List Nat)} (h : ws ≠ []) : 1 ≤ fitN w ws := by
  cases ws with
  | nil => exact absurd rfl h
  | cons x ws => exact Nat.succ_le_succ (Nat.zero_le _)
theorem take_ne {α : Type} {ws : List α} {m : Nat} (h1 : 1 ≤ m) (h : ws ≠ []) : ws.take m ≠ [] := by
  cases ws with
  | nil => exact absurd rfl h
  | cons a ws =>
    obtain ⟨k, rfl⟩ : ∃ k, m = k + 1 := ⟨m - 1, by omega⟩
    rw [List.take_succ_cons]; simp
/-- the loop: so many words stand, and so many more -/
theorem fit_step (w : Nat) {ws : List (List Nat)} {m : Nat} (h1 : 1 ≤ m) (hm : m < ws.length) : moreN w (jn (ws.take m)).length (ws.drop m) = if (jn (ws.take (m + 1))).length ≤ w then moreN w (jn (ws.take (m + 1))).length (ws.drop (m + 1)) + 1 else 0 := by
  have e1 : ws.drop m = ws[m] :: ws.drop (m + 1) := List.drop_eq_getElem_cons hm
  have e2 : ws.take (m + 1) = ws.take m ++ [ws[m]] := List.take_succ_eq_append_getElem hm
  have e3 : (jn (ws.take (m + 1))).length = (jn (ws.take m)).length + 1 + ws[m].length := by
    rw [e2, jn_snoc _ _ (take_ne h1 (by intro e; rw [e] at hm; cases hm)), List.length_append, List.length_cons]; omega
  rw [e1, e3]; rfl
theorem fit_one (w : Nat) {ws : List (List Nat)} (h : ws ≠ []) : fitN w ws = 1 + moreN w (jn (ws.take 1)).length (ws.drop 1) := by
  cases ws with
  | nil => exact absurd rfl h
  | cons x ws => show moreN w x.length ws + 1 = 1 + moreN w x.length ws; omega
theorem brk_flat (w : Nat) : ∀ (n : Nat) (ws : List (List Nat)), ws.length ≤ n → (brk w ws).flatten = ws
  | 0, ws, h => by
    have : ws = [] := List.length_eq_zero_iff.mp (by omega)
    subst this; rfl
  | n + 1, ws, h => by
    by_cases e : ws = []
    · subst e; rfl
    · have h1 := fitN_pos w e
      rw [brk_cons w e, List.flatten_cons, brk_flat w n _ (by rw [List.length_drop]; omega), List.take_append_drop]
theorem brk_words (w : Nat) (ws : List (List Nat)) : (brk w ws).flatten = ws := brk_flat w _ ws (Nat.le_refl _)
theorem brk_ne (w : Nat) : ∀ (n : Nat) (ws : List (List Nat)), ws.length ≤ n → ∀ g ∈ brk w ws, g ≠ []
  | 0, ws, h, g, hg => by
    have : ws = [] := List.length_eq_zero_iff.mp (by omega)
    subst this; cases hg
  | n + 1, ws, h, g, hg => by
    by_cases e : ws = []
    · subst e; cases hg
    · have h1 := fitN_pos w e
      rw [brk_cons w e] at hg
      rcases List.mem_cons.mp hg with rfl | hg
      · exact take_ne h1 e
      · exact brk_ne w n _ (by rw [List.length_drop]; omega) g hg
theorem brk_len (w : Nat) : ∀ (n : Nat) (ws : List (List Nat)), ws.length ≤ n → (brk w ws).length ≤ ws.length
  | 0, ws, h => by
    have : ws = [] := List.length_eq_zero_iff.mp (by omega)
    subst this; exact Nat.le_refl _
  | n + 1, ws, h => by
    by_cases e : ws = []
    · subst e; exact Nat.le_refl _
    · have h1 := fitN_pos w e
      have hl := List.length_pos_iff.mpr e
      have ih := brk_len w n (ws.drop (fitN w ws)) (by rw [List.length_drop]; omega)
      rw [brk_cons w e, List.length_cons]
      rw [List.length_drop] at ih
      have := fitN_le w ws
      omega
theorem lineG_len (w : Nat) (ws : List (List Nat)) : (lineG w ws).length ≤ ws.length + 1 := by
  unfold lineG
  split
  · exact Nat.succ_le_succ (Nat.zero_le _)
  · rw [List.length_map]
    have := brk_len w _ ws (Nat.le_refl _)
    omega
theorem linesL_len (w : Nat) (p : List Nat) : (linesL w p).length ≤ p.length + 1 := by
  rw [lines_grp]
  have := lineG_len w (wordsL p)
  have := words_count p
  omega
/-! #### the loop's bounds -/
theorem lnsM_len (w : Nat) : ∀ (ws : List (List Nat)) (line : List Nat), (lnsM w ws line).length ≤ ws.length + 1
  | [], _ => Nat.le_refl _
  | x :: ws, line => by
    show (if line.isEmpty = true then lnsM w ws x else if line.length + 1 + x.length ≤ w then lnsM w ws (line ++ 32 :: x) else line :: lnsM w ws x).length ≤ ws.length + 1 + 1
    split
    · have := lnsM_len w ws x; omega
    · split
      · have := lnsM_len w ws (line ++ 32 :: x); omega
      · have := lnsM_len w ws x
        rw [List.length_cons]; omega
theorem wrapL_len (w : Nat) (x : List Nat) : (wrapL w x).length ≤ 2 * x.length + 1 := by
  unfold wrapL
  have key : ∀ l : List (List Nat), (l.flatMap (linesL w)).length ≤ (l.map List.length).sum + l.length := by
    intro l
    induction l with
    | nil => exact Nat.le_refl _
    | cons p l ih =>
      rw [List.flatMap_cons, List.length_append, List.map_cons, List.sum_cons, List.length_cons]
      have := linesL_len w p
      omega
  have h1 := key (cut 10 x)
  have h2 := cut_sum 10 x
  have h3 := cut_len 10 x
  omega
/-! #### the words of each part, sign by sign -/
def wdsM : List (List Nat) → List Nat → List Nat → List (List (List Nat))
  | cur, _, [] => [cur]
  | cur, wd, c :: t => if c = 32 ∨ c = 10 then (if c = 10 then (if wd.isEmpty then cur else cur ++ [wd]) :: wdsM [] [] t else wdsM (if wd.isEmpty then cur else cur ++ [wd]) [] t) else wdsM cur (wd ++ [c]) t
def wordsF (wd p : List Nat) : List (List Nat) := (match cut 32 p with
  | [] => []
  | h :: ts => (wd ++ h) :: ts).filter (!·.isEmpty)
theorem wordsF_nil (p : List Nat) : wordsF [] p = wordsL p := by
  unfold wordsF wordsL
  obtain ⟨h, ts, e⟩ := cut_ne 32 p
  rw [e]; rfl
theorem wordsF_end (wd : List Nat) : wordsF wd [] = if wd.isEmpty then [] else [wd] := by
  show ([wd ++ []].filter (!·.isEmpty)) = _
  rw [List.append_nil]
  cases wd <;> rfl
theorem wordsF_blank (wd p : List Nat) : wordsF wd (32 :: p) = (if wd.isEmpty then [] else [wd]) ++ wordsL p := by
  unfold wordsF
  rw [cut_hit]
  show ((wd ++ []) :: cut 32 p).filter (!·.isEmpty) = _
  rw [List.append_nil]
  cases wd <;> rfl
theorem wordsF_sign {c : Nat} (wd p : List Nat) (h : c ≠ 32) : wordsF wd (c :: p) = wordsF (wd ++ [c]) p := by
  unfold wordsF
  obtain ⟨q, ts, e⟩ := cut_ne 32 p
  rw [cut_miss h e, e]
  simp
theorem wdsM_cut : ∀ (x : List Nat) (cur : List (List Nat)) (wd : List Nat) (p : List Nat) (ps : List (List Nat)), cut 10 x = p :: ps → wdsM cur wd (x ++ [10]) = (cur ++ wordsF wd p) :: (ps.map wordsL ++ [[]])
  | [], cur, wd, p, ps, e => by
    cases e
    rw [wordsF_end]
    show (if wd.isEmpty then cur else cur ++ [wd]) :: [[]] = _
    cases wd <;> simp
  | c :: t, cur, wd, p, ps, e => by
    obtain ⟨p', ps', e'⟩ := cut_ne 10 t
    by_cases h : c = 10
    · subst h
      rw [cut_hit, e'] at e
      cases e
      rw [wordsF_end]
      show (if wd.isEmpty then cur else cur ++ [wd]) :: wdsM [] [] (t ++ [10]) = _
      rw [wdsM_cut t [] [] p' ps' e', wordsF_nil]
      cases wd <;> simp
    · rw [cut_miss h e'] at e
      cases e
      by_cases hb : c = 32
      · subst hb
        show wdsM (if wd.isEmpty then cur else cur ++ [wd]) [] (t ++ [10]) = _
        rw [wdsM_cut t _ [] p' ps e', wordsF_nil, wordsF_blank]
        cases wd <;> simp
      · show (if c = 32 ∨ c = 10 then _ else wdsM cur (wd ++ [c]) (t ++ [10])) = _
        rw [if_neg (by simp [h, hb]), wdsM_cut t cur _ p' ps e', wordsF_sign _ _ hb]
theorem wdsM_all (x : List Nat) : wdsM [] [] (x ++ [10]) = (cut 10 x).map wordsL ++ [[]] := by
  obtain ⟨p, ps, e⟩ := cut_ne 10 x
  rw [wdsM_cut x [] [] p ps e, e, wordsF_nil]; rfl
theorem wdsM_feed {cur : List (List Nat)} {wd t : List Nat} : wdsM cur wd (10 :: t) = (if wd.isEmpty then cur else cur ++ [wd]) :: wdsM [] [] t := rfl
theorem wdsM_blank {cur : List (List Nat)} {wd t : List Nat} : wdsM cur wd (32 :: t) = wdsM (if wd.isEmpty then cur else cur ++ [wd]) [] t := rfl
theorem wdsM_sign {cur : List (List Nat)} {wd t : List Nat} {c : Nat} (h : ¬ (c = 32 ∨ c = 10)) : wdsM cur wd (c :: t) = wdsM cur (wd ++ [c]) t := by
  show (if c = 32 ∨ c = 10 then _ else _) = _
  rw [if_neg h]
/-- a list of words, of lists of words -/
abbrev txV (l : List Nat) : V := .str (sO l)
def WdsAt (H : Hp) (v : V) (ws : List (List Nat)) : Prop := ∃ a, v = .ref a ∧ H a = some (.lst (ws.map txV))
def PtsAt (H : Hp) (p : Addr) (ps : List (List (List Nat))) : Prop := ∃ vs : List V, H p = some (.lst vs) ∧ vs.length = ps.length ∧ ∀ (i : Nat) (v : V) (w : List (List Nat)), vs[i]? = some v → ps[i]? = some w → WdsAt H v w
theorem WdsAt.same {H H' : Hp} {v : V} {ws : List (List Nat)} (h : WdsAt H v ws) (s : Same H H') : WdsAt H' v ws := let ⟨a, e, g⟩ := h; ⟨a, e, s _ _ g⟩
theorem PtsAt.same {H H' : Hp} {p : Addr} {ps : List (List (List Nat))} (h : PtsAt H p ps) (s : Same H H') : PtsAt H' p ps := let ⟨vs, g, l, k⟩ := h; ⟨vs, s _ _ g, l, fun i v w a b => (k i v w a b).same s⟩
/-- .. that stand apart from the source -/
theorem WdsAt.dr {H H' : Hp} {a : Addr} {v : V} {ws : List (List Nat)} (h : WdsAt H v ws) (hs : Src H a) (d : Dr a H H') : WdsAt H' v ws := by
  obtain ⟨b, e, g⟩ := h
  refine ⟨b, e, d.app ?_ g⟩
  rintro rfl
  obtain ⟨s, hs⟩ := hs
  rw [g] at hs
  cases ws with
  | nil => cases hs
  | cons w ws => cases hs
theorem PtsAt.dr {H H' : Hp} {a p : Addr} {ps : List (List (List Nat))} (h : PtsAt H p ps) (hs : Src H a) (d : Dr a H H') : PtsAt H' p ps := by
  obtain ⟨vs, g, l, k⟩ := h
  refine ⟨vs, d.app ?_ g, l, fun i v w e1 e2 => (k i v w e1 e2).dr hs d⟩
  rintro rfl
  obtain ⟨s, hs⟩ := hs
  rw [g] at hs
  cases hs
  cases ps with
  | nil => cases l
  | cons w ps =>
    obtain ⟨b, e, _⟩ := k 0 _ w rfl rfl
    cases e
theorem take_sum (ws : List (List Nat)) (m : Nat) : ((ws.take m).map List.length).sum + (ws.take m).length ≤ (ws.map List.length).sum + ws.length := by
  conv => rhs; rw [← List.take_append_drop m ws]
  rw [List.map_append, List.sum_append, List.length_append]; omega
theorem jn_take_len (ws : List (List Nat)) (m : Nat) : (jn (ws.take m)).length ≤ (ws.map List.length).sum + ws.length := by
  have := take_sum ws m
  show (TL.joinL [32] (ws.take m)).length ≤ _
  rw [joinL_len]; omega
theorem PtsAt.pairs {H : Hp} {p : Addr} {ps : List (List (List Nat))} (h : PtsAt H p ps) : ∃ ys : List (V × List (List Nat)), H p = some (.lst (ys.map Prod.fst)) ∧ ys.map Prod.snd = ps ∧ ∀ y ∈ ys, WdsAt H y.1 y.2 := by
  obtain ⟨vs, g, l, k⟩ := h
  refine ⟨vs.zip ps, by rw [g, List.map_fst_zip (by omega)], List.map_snd_zip (by omega), fun y hy => ?_⟩
  obtain ⟨i, hi, e⟩ := List.getElem_of_mem hy
  rw [List.length_zip] at hi
  have e2 := List.getElem_zip (l := vs) (l' := ps) (i := i) (h := by rw [List.length_zip]; exact hi)
  rw [e] at e2
  rw [e2]
  exact k i _ _ (List.getElem?_eq_getElem (by omega)) (List.getElem?_eq_getElem (by omega))
theorem drop_sum (ws : List (List Nat)) (m : Nat) : ((ws.drop m).map List.length).sum + (ws.drop m).length ≤ (ws.map List.length).sum + ws.length := by
  conv => rhs; rw [← List.take_append_drop m ws]
  rw [List.map_append, List.sum_append, List.length_append]; omega
theorem max0_of {l : List Nat} {m : Int} (h : m ∈ (0 :: l).map Int.ofNat) (g : ∀ y ∈ (0 :: l).map Int.ofNat, y ≤ m) : m = ((maxN l : Nat) : Int) := by
  rw [maxN_of h g]
  show ((max 0 (maxN l) : Nat) : Int) = _
  rw [Nat.zero_max]
theorem lens_V (ws : List (List Nat)) : [V.int 0] ++ ws.map (fun y => V.int (y.length : Nat)) = ((0 :: ws.map List.length).map Int.ofNat).map V.int := by
  rw [List.map_cons, List.map_cons, List.map_map, List.map_map]; rfl
theorem lineG_pos (w : Nat) (ws : List (List Nat)) : 1 ≤ (lineG w ws).length := by
  unfold lineG
  split
  · exact Nat.le_refl _
  · rename_i h
    have h : ws ≠ [] := fun e => h (by rw [e]; rfl)
    rw [brk_cons w h, List.map_cons, List.length_cons]; exact Nat.succ_le_succ (Nat.zero_le _)
/-- the parts of a text, and its words -/
theorem parts_ok {l : List Nat} {m : Nat} (h : l.length ≤ m) : (cut 10 l).map wordsL ≠ [] ∧ ((cut 10 l).map wordsL).length ≤ m + 1 ∧ ∀ ws ∈ (cut 10 l).map wordsL, (ws.map List.length).sum + ws.length ≤ 2 * m := by
  obtain ⟨p, ps, e⟩ := cut_ne 10 l
  refine ⟨by rw [e]; simp, by rw [List.length_map]; have := cut_len 10 l; omega, fun ws hw => ?_⟩
  obtain ⟨p, hp, rfl⟩ := List.mem_map.mp hw
  have h1 := part_len hp
  have h2 := words_sum p
  have h3 := words_count p
  omega
theorem flat_at {α β : Type} (f : α → List β) {l : List α} {i : Nat} {y : α} (h : l[i]? = some y) : l.flatMap f = (l.take i).flatMap f ++ (f y ++ (l.drop (i + 1)).flatMap f) := by
  have hi := (List.getElem?_eq_some_iff.mp h).1
  conv => lhs; rw [← List.take_append_drop i l, List.flatMap_append, List.drop_eq_getElem_cons hi, List.flatMap_cons, (List.getElem?_eq_some_iff.mp h).2]
theorem flat_take_succ {α β : Type} (f : α → List β) {l : List α} {i : Nat} {y : α} (h : l[i]? = some y) : (l.take (i + 1)).flatMap f = (l.take i).flatMap f ++ f y := by
  rw [List.take_add_one, h, List.flatMap_append]; simp
theorem tx_ne {H : Hp} {a b : Addr} {ws : List (List Nat)} (h : H b = some (.lst (ws.map txV))) (hs : Src H a) : b ≠ a := by
  rintro rfl
  obtain ⟨s, hs⟩ := hs
  rw [h] at hs
  cases ws with
  | nil => cases hs
  | cons w ws => cases hs
end My

/-! ### == and != of lists of texts; a comprehension within one -/
namespace My
open PySem PySem.Spec PyProof.Rows L2
def rEqTx (K : PySem.W.Frag) : R2 := fun x y H Q => ∃ (a b : Addr) (xs ys : List (List Nat)), x = .ref a ∧ y = .ref b ∧ SqL K H a (xs.map txV) ∧ SqL K H b (ys.map txV) ∧ Q (.bl (decide (xs = ys))) H
def rNeTx (K : PySem.W.Frag) : R2 := fun x y H Q => ∃ (a b : Addr) (xs ys : List (List Nat)), x = .ref a ∧ y = .ref b ∧ SqL K H a (xs.map txV) ∧ SqL K H b (ys.map txV) ∧ Q (.bl (!decide (xs = ys))) H
theorem eqV_tx (a b : List Nat) : eqV (txV a) (txV b) = decide (a = b) := by
  show (sO a == sO b) = decide (a = b)
  rw [Bool.eq_iff_iff, beq_iff_eq, decide_eq_true_iff]
  exact ⟨fun h => by simpa [sO] using h, fun h => by rw [h]⟩
theorem tx_all {A : Around} {s : Shared} : ∀ {xs ys : List (List Nat)} {us ws : List Value}, Vals (xs.map txV) us → Vals (ys.map txV) ws → ∀ j (h1 : j < us.length) (h2 : j < ws.length), SeqAt.EqAt A s us[j] ws[j] (decide (xs[j]? = ys[j]?))
  | [], _, _, _, .nil, _, j, h1, _ => absurd h1 (Nat.not_lt_zero j)
  | _ :: _, [], _, _, .cons _ _, .nil, j, _, h2 => absurd h2 (Nat.not_lt_zero j)
  | x :: xs, y :: ys, _, _, .cons a1 b1, .cons a2 b2, 0, _, _ => by
    have := eqAt_V (A := A) (s := s) a1 a2 rfl rfl
    rw [eqV_tx] at this
    rw [show decide ((x :: xs)[0]? = (y :: ys)[0]?) = decide (x = y) from by
      rw [List.getElem?_cons_zero, List.getElem?_cons_zero]; exact decide_eq_decide.mpr ⟨fun e => Option.some.inj e, fun e => by rw [e]⟩]
    exact this
  | x :: xs, y :: ys, _, _, .cons a1 b1, .cons a2 b2, j + 1, h1, h2 => by
    have := tx_all (A := A) (s := s) b1 b2 j (Nat.lt_of_succ_lt_succ h1) (Nat.lt_of_succ_lt_succ h2)
    simpa using this
theorem all_dec {xs ys : List (List Nat)} (h : xs.length = ys.length) : ((List.range xs.length).all fun j => decide (xs[j]? = ys[j]?)) = decide (xs = ys) := by
  rw [Bool.eq_iff_iff, List.all_eq_true, decide_eq_true_iff]
  refine ⟨fun k => List.ext_getElem? fun j => ?_, fun e j _ => by rw [e]; exact decide_eq_true rfl⟩
  by_cases hj : j < xs.length
  · exact of_decide_eq_true (k j (List.mem_range.mpr hj))
  · rw [List.getElem?_eq_none (by omega), List.getElem?_eq_none (by omega)]
theorem op_eqTx {X : Cx} (hu : X.A.units + 64 < cLine) : OpR X (compareOp .Eq) (rEqTx X.K) := by
  intro pins s σ H x y v u Q I rx ry h
  obtain ⟨a, b, xs, ys, rfl, rfl, ha, hb, q⟩ := h
  cases (show v = Value.ref a from rx)
  cases (show u = Value.ref b from ry)
  obtain ⟨us, r1, p1, _⟩ := I.list ha
  obtain ⟨ws, r2, p2, _⟩ := I.list hb
  have l1 := r1.length
  have l2 := r2.length
  rw [List.length_map] at l1 l2
  by_cases hl : xs.length = ys.length
  · have hsz : us.toArray.size = ws.toArray.size := by
      rw [List.size_toArray, List.size_toArray]; omega
    have k := SeqAt.RcAt.lists (A := X.A) (e := fun j => decide (xs[j]? = ys[j]?)) p1.isList p2.isList hsz (show X.A.units < cLine by omega) (fun j h1 h2 => by
      have := tx_all (A := X.A.in1) (s := s) r1 r2 j (by simpa using h1) (by simpa using h2)
      simpa using this)
    rw [List.size_toArray, show us.length = xs.length from by omega, all_dec hl] at k
    exact k _ _ _ _ ⟨.bl _, H, I, rfl, q⟩
  · have k := SeqAt.RcAt.lists_lengths (A := X.A) p1.isList p2.isList (show (us.toArray.size != ws.toArray.size) = true by simp; omega) (show X.A.units < cLine by omega)
    rw [decide_eq_false (fun e => hl (by rw [e]))] at q
    exact k _ _ _ _ ⟨.bl false, H, I, rfl, q⟩
theorem op_neTx {X : Cx} (hu : X.A.units + 64 < cLine) : OpR X (compareOp .NotEq) (rNeTx X.K) := by
  intro pins s σ H x y v u Q I rx ry h
  obtain ⟨a, b, xs, ys, rfl, rfl, ha, hb, q⟩ := h
  cases (show v = Value.ref a from rx)
  cases (show u = Value.ref b from ry)
  obtain ⟨us, r1, p1, _⟩ := I.list ha
  obtain ⟨ws, r2, p2, _⟩ := I.list hb
  have l1 := r1.length
  have l2 := r2.length
  rw [List.length_map] at l1 l2
  by_cases hl : xs.length = ys.length
  · have hsz : us.toArray.size = ws.toArray.size := by
      rw [List.size_toArray, List.size_toArray]; omega
    have k := SeqAt.RcNeAt.lists (A := X.A) (e := fun j => decide (xs[j]? = ys[j]?)) p1.isList p2.isList hsz (show X.A.units < cLine by omega) (fun j h1 h2 => by
      have := tx_all (A := X.A.in1) (s := s) r1 r2 j (by simpa using h1) (by simpa using h2)
      simpa using this)
    rw [List.size_toArray, show us.length = xs.length from by omega, all_dec hl] at k
    exact k _ _ _ _ ⟨.bl _, H, I, rfl, q⟩
  · have k := SeqAt.RcNeAt.lists_lengths (A := X.A) p1.isList p2.isList (show (us.toArray.size != ws.toArray.size) = true by simp; omega) (show X.A.units < cLine by omega)
    rw [decide_eq_false (fun e => hl (by rw [e]))] at q
    exact k _ _ _ _ ⟨.bl true, H, I, rfl, q⟩
theorem op_eqTxK {X : Cx} {K : PySem.W.Frag} (hu : X.A.units + 64 < cLine) (h : X.K = K) : OpR X (compareOp .Eq) (rEqTx K) := by subst h; exact op_eqTx hu
theorem op_neTxK {X : Cx} {K : PySem.W.Frag} (hu : X.A.units + 64 < cLine) (h : X.K = K) : OpR X (compareOp .NotEq) (rNeTx K) := by subst h; exact op_neTx hu
/-- a block within a block: its scope hands nothing on -/
theorem blkOk_any {N : List Str} {sc scope : Scope} {own : List (Str × Nat)} (h : blkC N { kind := .function, names := [], isGenerator := false, isCoroutine := false } scope own = true) : BlkOk N sc scope own := by
  have b := blkOk_by h
  exact ⟨b.kind, b.uniq, b.ix, fun y hy e => (b.free y hy e).elim (fun z => by cases z) (fun z => by cases z), b.own⟩
end My

/-! ### own errors -/
namespace My
open PySem PySem.Spec PyProof.Rows L2
structure Ex (K : PySem.W.Frag) (mg : Str → Option Value) (x : Str) where
  C : Addr
  g : mg x = some (.ref C)
  x : PySem.W.excIn K C [.type "ValueError", .type "Exception", .type "BaseException", .type "object"] "ValueError.__new__" = true
  k : PySem.W.keepIn K (.ref C) = true
  b : PySem.W.subIn K (.ref C) (.type "BaseException") = some true
  t : PySem.W.typeIn K (.ref C) = some (.type "type")
  E : ExcC K C
def ex_mk {K : PySem.W.Frag} {mg : Str → Option Value} {x : Str} {h : Heap} (X : K.In h) (G : h.Ns mainGlobals mg) {C : Addr} (g : PySem.W.nsIn K mainGlobals x = some (some (.ref C)))
    (x1 : PySem.W.excIn K C [.type "ValueError", .type "Exception", .type "BaseException", .type "object"] "ValueError.__new__" = true) (x2 : PySem.W.keepIn K (.ref C) = true) (x3 : PySem.W.subIn K (.ref C) (.type "BaseException") = some true) (x4 : PySem.W.typeIn K (.ref C) = some (.type "type"))
    (y1 : PySem.W.findIn K (.ref C) "__getattribute__" = some (some (.builtin "BaseException.__getattribute__"))) (y2 : PySem.W.findIn K (.ref C) "__getattr__" = some none) (y3 : PySem.W.hasDictIn K C = true) (y4 : PySem.W.findIn K (.ref C) "__class__" = some (some (.builtin "object.__class__")))
    (y5 : PySem.W.specialIn K (.builtin "object.__class__") "__get__" = some (some (.builtin "getset_descriptor.__get__"))) (y6 : PySem.W.takesIn K (.builtin "object.__class__") = some true) (y7 : PySem.W.mroIn K C (.type "object") = some true) : Ex K mg x :=
  ⟨C, PySem.W.mg_of X G g, x1, x2, x3, x4, ⟨y1, y2, x3, y3, y4, y5, y6, y7⟩⟩
section
variable {K : PySem.W.Frag} {mg : Str → Option Value} {x y : Str} {cv : Value} {b : Bool}
theorem Ex.exm (e : Ex K mg x) (h : PySem.W.subIn K cv (.ref e.C) = some b) : PySem.W.exmOne K cv (.ref e.C) = some b := PySem.W.exm_ref e.b e.E.hd e.t h
theorem Ex.kcls (e : Ex K mg x) (h : PySem.W.subIn K cv (.ref e.C) = some b) : PySem.W.kitCls K cv (.ref e.C) = some b := by
  have hc : (PySem.W.clsIn K e.C).isSome = true := by
    have := e.E.hd
    unfold PySem.W.hasDictIn at this
    cases q : PySem.W.clsIn K e.C with
    | none => rw [q] at this; cases this
    | some c => rfl
  have e2 : ((PySem.W.clsIn K e.C).isSome && PySem.W.typeIn K (.ref e.C) == some (.type "type")) = true := by rw [hc, e.t] <;> rfl
  show (if ((PySem.W.clsIn K e.C).isSome && PySem.W.typeIn K (.ref e.C) == some (.type "type")) = true then PySem.W.subIn K cv (.ref e.C) else none) = some b
  rw [if_pos e2]
  exact h
/-- isinstance of an error's class: by the chains of the two classes -/
theorem Ex.kit (d : Ex K mg y) (e : Ex K mg x) (s : PySem.W.subIn K (.ref d.C) (.ref d.C) = some true) (h : PySem.W.subIn K (.ref d.C) (.ref e.C) = some b) : PySem.W.kitOne K (.ref d.C) (.ref e.C) = some b := by
  unfold PySem.W.kitOne
  split
  · next q =>
    have z : (Value.ref d.C) = .ref e.C := beq_iff_eq.mp q
    rw [← z, s] at h
    cases h
    rfl
  · exact e.kcls h
theorem Ex.kitT (d : Ex K mg y) {n : String} (h : PySem.W.subIn K (.ref d.C) (.type n) = some b) (m : PySem.W.kitMeta n = true := by decide +kernel) : PySem.W.kitOne K (.ref d.C) (.type n) = some b := by
  unfold PySem.W.kitOne
  split
  · next q =>
    have z : (Value.ref d.C) = .type n := beq_iff_eq.mp q
    cases z
  · show (if PySem.W.kitMeta n = true then PySem.W.subIn K (.ref d.C) (.type n) else none) = some b
    rw [if_pos m]
    exact h
end
/-- an error class that is only asked about -/
structure Ec (K : PySem.W.Frag) (mg : Str → Option Value) (x : Str) where
  C : Addr
  g : mg x = some (.ref C)
  t : PySem.W.typeIn K (.ref C) = some (.type "type")
  d : PySem.W.hasDictIn K C = true
def ec_mk {K : PySem.W.Frag} {mg : Str → Option Value} {x : Str} {h : Heap} (X : K.In h) (G : h.Ns mainGlobals mg) {C : Addr} (g : PySem.W.nsIn K mainGlobals x = some (some (.ref C)))
    (x1 : PySem.W.typeIn K (.ref C) = some (.type "type")) (x2 : PySem.W.hasDictIn K C = true) : Ec K mg x := ⟨C, PySem.W.mg_of X G g, x1, x2⟩
theorem Ex.kitC {K : PySem.W.Frag} {mg : Str → Option Value} {x y : Str} {b : Bool} (d : Ex K mg y) (e : Ec K mg x) (s : PySem.W.subIn K (.ref d.C) (.ref d.C) = some true) (h : PySem.W.subIn K (.ref d.C) (.ref e.C) = some b) : PySem.W.kitOne K (.ref d.C) (.ref e.C) = some b := by
  unfold PySem.W.kitOne
  split
  · next q =>
    have z : (Value.ref d.C) = .ref e.C := beq_iff_eq.mp q
    rw [← z, s] at h
    cases h
    rfl
  · have hc : (PySem.W.clsIn K e.C).isSome = true := by
      have := e.d
      unfold PySem.W.hasDictIn at this
      cases q : PySem.W.clsIn K e.C with
      | none => rw [q] at this; cases this
      | some c => rfl
    have e2 : ((PySem.W.clsIn K e.C).isSome && PySem.W.typeIn K (.ref e.C) == some (.type "type")) = true := by rw [hc, e.t] <;> rfl
    show (if ((PySem.W.clsIn K e.C).isSome && PySem.W.typeIn K (.ref e.C) == some (.type "type")) = true then PySem.W.subIn K (.ref d.C) (.ref e.C) else none) = some b
    rw [if_pos e2]
    exact h
/-- isinstance(e, c) in a suite, the error's class told in the reading -/
def rIsX (K : PySem.W.Frag) (cls : Value) (d : Option Addr) (a : Addr) : List V → Hp → VK → Prop := fun xs H Q => ∃ (D : Addr) (c : V) (cv : Value) (b : Bool), cls = .ref D ∧ d = none ∧ ExcC K D ∧ xs = [.ref a, c] ∧ (∀ u, RelV c u → u = cv) ∧ PySem.W.kitOne K (.ref D) cv = some b ∧ Q (.bl b) H
theorem call_isX {X : Cx} {a : Addr} {cls : Value} {d : Option Addr} {oe : Obj} {pn : List (Addr × Obj)} (hz : Zc cls d oe) (hf : ∃ vs, oe.data = .fields vs) : CallR (X.suite a ((a, oe) :: pn)) (.builtin "isinstance") (rIsX X.K cls d a) := by
  intro pins s σ H xs us Q I r h
  obtain ⟨D, c, cv, b, rfl, rfl, C, e, hc, hk, q⟩ := h
  exact call_isE C hz hf pins s σ H xs us Q I r ⟨c, cv, b, e, hc, hk, q⟩
section
variable {X : Cx}
/-- [..].count(x), of flat ones -/
def rCntF (K : PySem.W.Frag) : V → List V → Hp → VK → Prop := fun x xs H Q => ∃ (a : Addr) (ys : List V) (y : V), x = .ref a ∧ xs = [y] ∧ SqL K H a ys ∧ flatV y = true ∧ ys.all flatV = true ∧ Q (.int (ys.countP (fun z => eqV z y) : Nat)) H
theorem cnt_flat {y : V} : ∀ {us : List Value} {ys : List V}, Vals ys us → ys.all flatV = true → us.countP (eqU y) = ys.countP (fun z => eqV z y)
  | _, _, .nil, _ => rfl
  | _, _, .cons r t, f => by
    rw [List.all_cons, Bool.and_eq_true] at f
    rw [List.countP_cons, List.countP_cons, cnt_flat t f.2, eqU_of r f.1]
theorem mt_countF : MtR X "list.count" (rCntF X.K) := by
  intro pins s σ H x xs v us Q I rx rxs h
  obtain ⟨a, ys, y, rfl, rfl, hs, fy, fys, q⟩ := h
  cases rx
  cases rxs with
  | cons ry rt =>
    rename_i uy ut
    cases rt
    obtain ⟨its, rv, ⟨⟨cls, dd, data, sl⟩, n, ho, hc, hdn, hd⟩, hlen⟩ := I.list hs
    simp only at hc hd
    subst hc hd
    refine call_meets PySem.F.slot_list_count ⟨_, ho, rfl⟩ PySem.F.entry_list_count (PySem.F.args_list_count_2 _ _)
      (SeqAt.list_countAt a its.toArray n dd sl uy (eqU y)) ⟨ho, fun u' hu' => mem_eqAt ry fy rv fys u' (by simpa using hu'), ?_⟩
    refine ⟨.int (ys.countP (fun z => eqV z y) : Nat), H, I.tok _, ⟨s.toks, ?_⟩, q⟩
    show Value.int ((its.toArray.toList.countP (eqU y) : Nat) : Int) s.toks = Value.int ((ys.countP (fun z => eqV z y) : Nat) : Int) s.toks
    rw [show its.toArray.toList = its from rfl, cnt_flat rv fys]
theorem mt_countFK {K : PySem.W.Frag} (h : X.K = K) : MtR X "list.count" (rCntF K) := by subst h; exact mt_countF
theorem mt_indexK {K : PySem.W.Frag} (h : X.K = K) : MtR X "list.index" (L2.rIndex K) := by subst h; exact mt_index
theorem pe_bmK {K : PySem.W.Frag} {T name id : String} {r : V → List V → Hp → VK → Prop} {o e : Expr} {es : List Expr} {to : TE} {t : TA} {apos cpos : Pos} (h : X.K = K) (pa : PlainAttrs T) (slot : Slot T name id) (hty : typeOf (.builtin id) = pure (.type "method_descriptor")) (hm : MtR X id r) (ho : PE X o to) (ha : PA X (e :: es) t)
    (hbase : attributeBase o name X.env (eval o X.env) = eval o X.env := by rfl)
    (hfew : ((backTo cpos (starEach (e :: es) X.env)).all (fun x => !x.1) && (backToKw cpos (keywordEach [] X.env)).all (fun x => x.1.isSome)
      && decide ((e :: es).length + ([] : List Keyword).length + (if ([] : List Keyword).isEmpty then 0 else 1) < 30)) = true := by rfl)
    (hline : (apos.endLine == cpos.line) = true := by rfl) (hs : starEach (e :: es) X.env = (false, eval e X.env) :: starEach es X.env := by rfl) (hplain : (backTo cpos (starEach es X.env)).any (·.1) = false := by rfl) :
    PE X (.Call (.Attribute o name apos) (e :: es) [] cpos) (tBM K T r to t) := by
  subst h
  exact pe_bm pa slot hty hm ho ha hbase hfew hline hs hplain
theorem op_eqVK {K : PySem.W.Frag} (hu : X.A.units + 64 < cLine) (h : X.K = K) : OpR X (compareOp .Eq) (rEqV K) := by subst h; exact op_eqV hu
end
end My

/-! ### != of lists of like items: the same ones, or lists of the same ones -/
namespace My
open PySem PySem.Spec PyProof.Rows L2
def PlainQ (x : V) : Prop := flatB x = true ∨ ∃ r, x = .ref r
def EqQ (K : PySem.W.Frag) (H : Hp) (u v : V) : Prop := (u = v ∧ PlainQ u) ∨ ∃ a b zs, u = .ref a ∧ v = .ref b ∧ SqL K H a zs ∧ SqL K H b zs ∧ ∀ z ∈ zs, PlainQ z
def rNeQ (K : PySem.W.Frag) : R2 := fun x y H Q => ∃ a b xs ys, x = .ref a ∧ y = .ref b ∧ SqL K H a xs ∧ SqL K H b ys ∧ Paired (EqQ K H) xs ys ∧ Q (.bl false) H
theorem plainQ_at {A : Around} {s : Shared} {x : V} {u w : Value} (h : PlainQ x) (r : RelV x u) (r' : RelV x w) : SeqAt.EqAt A s u w true := by
  rcases h with h | ⟨a, rfl⟩
  · exact eqAt_same r r' h
  · cases (show u = Value.ref a from r)
    cases (show w = Value.ref a from r')
    exact SeqAt.EqAt.same _
theorem plainQ_all {A : Around} {s : Shared} : ∀ {xs : List V} {us ws : List Value}, (∀ x ∈ xs, PlainQ x) → Vals xs us → Vals xs ws → ∀ j (h1 : j < us.length) (h2 : j < ws.length), SeqAt.EqAt A s us[j] ws[j] true
  | _, _, _, _, .nil, .nil, j, h1, _ => absurd h1 (Nat.not_lt_zero j)
  | _, _, _, hp, .cons a1 b1, .cons a2 b2, 0, _, _ => plainQ_at (hp _ List.mem_cons_self) a1 a2
  | _, _, _, hp, .cons a1 b1, .cons a2 b2, j + 1, h1, h2 => plainQ_all (fun y hy => hp y (List.mem_cons_of_mem _ hy)) b1 b2 j (Nat.lt_of_succ_lt_succ h1) (Nat.lt_of_succ_lt_succ h2)
section
variable {X : Cx} {pins : List (Addr × Obj)} {σ : L2.St} {H : Hp} {s : Shared}
theorem eqQ_at (I : Inv X pins σ H s) {A : Around} (hu : A.units < cLine) {x y : V} {u w : Value} (h : EqQ X.K H x y) (r : RelV x u) (r' : RelV y w) : SeqAt.EqAt A s u w true := by
  rcases h with ⟨rfl, hp⟩ | ⟨a, b, zs, rfl, rfl, ha, hb, hp⟩
  · exact plainQ_at hp r r'
  · cases (show u = Value.ref a from r)
    cases (show w = Value.ref b from r')
    by_cases e : a = b
    · subst e; exact SeqAt.EqAt.same _
    · obtain ⟨us, r1, p1, _⟩ := I.list ha
      obtain ⟨ws, r2, p2, _⟩ := I.list hb
      have hsz : us.toArray.size = ws.toArray.size := by
        rw [List.size_toArray, List.size_toArray, ← r1.length, ← r2.length]
      refine SeqAt.EqAt.of_refs e ?_
      have k := SeqAt.RcAt.lists (e := fun _ => true) p1.isList p2.isList hsz hu (A := A) (fun j h1 h2 => by
        have := plainQ_all (A := A.in1) (s := s) hp r1 r2 j (by simpa using h1) (by simpa using h2)
        simpa using this)
      rwa [show ((List.range us.toArray.size).all fun _ => true) = true from List.all_eq_true.mpr fun _ _ => rfl] at k
theorem eqQ_all (I : Inv X pins σ H s) {A : Around} (hu : A.units < cLine) {xs ys : List V} (h : Paired (EqQ X.K H) xs ys) : ∀ {us ws : List Value}, Vals xs us → Vals ys ws → ∀ j (h1 : j < us.length) (h2 : j < ws.length), SeqAt.EqAt A s us[j] ws[j] true := by
  induction h with
  | nil =>
    intro us ws r1 r2 j h1 h2
    cases r1
    exact absurd h1 (Nat.not_lt_zero j)
  | cons h _ k =>
    intro us ws r1 r2 j h1 h2
    cases r1 with
    | cons a1 b1 =>
      cases r2 with
      | cons a2 b2 =>
        cases j with
        | zero => exact eqQ_at I hu h a1 a2
        | succ j => exact k b1 b2 j (Nat.lt_of_succ_lt_succ h1) (Nat.lt_of_succ_lt_succ h2)
end
theorem op_neQ {X : Cx} (hu : X.A.units + 64 < cLine) : OpR X (compareOp .NotEq) (rNeQ X.K) := by
  intro pins s σ H x y v u Q I rx ry h
  obtain ⟨a, b, xs, ys, rfl, rfl, ha, hb, hp, q⟩ := h
  cases (show v = Value.ref a from rx)
  cases (show u = Value.ref b from ry)
  obtain ⟨us, r1, p1, _⟩ := I.list ha
  obtain ⟨ws, r2, p2, _⟩ := I.list hb
  have hsz : us.toArray.size = ws.toArray.size := by
    rw [List.size_toArray, List.size_toArray, ← r1.length, ← r2.length]
    exact Paired.length hp
  have k := SeqAt.RcNeAt.lists (e := fun _ => true) p1.isList p2.isList hsz (show X.A.units < cLine by omega) (fun j h1 h2 => by
    have := eqQ_all I (A := X.A.in1) (show X.A.units + 1 < cLine by omega) hp r1 r2 j (by simpa using h1) (by simpa using h2)
    simpa using this)
  rw [show ((List.range us.toArray.size).all fun _ => true) = true from List.all_eq_true.mpr fun _ _ => rfl] at k
  exact k _ _ _ _ ⟨.bl false, H, I, rfl, q⟩
theorem op_neQK {X : Cx} {K : PySem.W.Frag} (hu : X.A.units + 64 < cLine) (h : X.K = K) : OpR X (compareOp .NotEq) (rNeQ K) := by subst h; exact op_neQ hu
theorem eqQ_refl {K : PySem.W.Frag} {H : Hp} : ∀ {xs : List V}, (∀ x ∈ xs, PlainQ x) → Paired (EqQ K H) xs xs
  | [], _ => .nil
  | x :: xs, h => .cons (.inl ⟨rfl, h x (List.mem_cons_self ..)⟩) (eqQ_refl fun y hy => h y (List.mem_cons_of_mem _ hy))
end My

/-! ### defs with keyword-only defaults -/
namespace My
open PySem PySem.Spec PyProof.Rows L2
structure DfK (K : PySem.W.Frag) (mg : Str → Option Value) (x : Str) (st : Stmt) (ps : List Str) (kws : List (Str × V)) where
  f : Addr
  fd : FuncData
  FD : FunD K x x (defArgs st) (defBody st) (defScope st) [] kws f fd
  bx : ∃ ds, Vals (kws.map (·.2)) ds ∧ Binds K fd ps ds
  g : mg x = some (.ref f)
section
variable {K : PySem.W.Frag} {mg : Str → Option Value} {x : Str} {st : Stmt} {ps : List Str} {kws : List (Str × V)}
theorem DfK.F (d : DfK K mg x st ps kws) : Fun K x x st d.f d.fd := by
  obtain ⟨oc, od, dV, kV, doc, pm, an, cdv, ct, osl, e, l, c, hd, _⟩ := d.FD.ex
  rcases hd with ⟨_, e2⟩ | ⟨e2, _⟩
  · subst e2
    exact ⟨⟨oc, od, kV, doc, pm, an, cdv, ct, osl, e, l, c⟩, d.FD.kp⟩
  · exact absurd rfl e2
theorem DfK.v (d : DfK K mg x st ps kws) : Vals (kws.map (·.2)) (Classical.choose d.bx) := (Classical.choose_spec d.bx).1
theorem DfK.b (d : DfK K mg x st ps kws) : Binds K d.fd ps (Classical.choose d.bx) := (Classical.choose_spec d.bx).2
def dfK_mk {h : Heap} (X : K.In h) (G : h.Ns mainGlobals mg) {f D : Addr} {oc : Value} {od an : Option Addr} {osl : Array (Option Value)} {doc pm cdv ct u : Value} {y : Str} {v : V} (n : Nat)
    (a : PySem.W.nsIn K mainGlobals x = some (some (.ref f))) (l : K.lookup f = some ⟨oc, od, .func (PySem.W.fnOf x x (defArgs st) (defBody st) (defScope st) .none (.ref D) doc pm an cdv ct), osl⟩)
    (c : PySem.W.codeIn K cdv x = true) (k : PySem.W.keepIn K (.ref f) = true) (e : PySem.W.nsIn K D y = some (some u)) (rv : RelV v u) (hn : n + 1 = ps.length)
    (hb : ∀ (D : Addr) (doc pm : Value) (an : Option Addr) (cdv ct : Value) (us ks : List Value), us.length = n → ks.length = 1 →
      KwChain D ([y].zip ks) (bindArgs (PySem.W.fnOf x x (defArgs st) (defBody st) (defScope st) .none (.ref D) doc pm an cdv ct) ⟨us, []⟩) (ps.zip (us ++ ks))) : DfK K mg x st ps [(y, v)] :=
  have F : FunD K x x (defArgs st) (defBody st) (defScope st) [] [(y, v)] f (PySem.W.fnOf x x (defArgs st) (defBody st) (defScope st) .none (.ref D) doc pm an cdv ct) := ⟨⟨oc, od, .none, .ref D, doc, pm, an, cdv, ct, osl, rfl, l, c, .inl ⟨rfl, rfl⟩, .inr ⟨D, rfl, fun q hq => by rw [List.mem_singleton.mp hq]; exact ⟨u, e, rv⟩⟩⟩, k⟩
  ⟨f, _, F, F.binds0 n (by intro z; cases z) hn hb, PySem.W.mg_of X G a⟩
end
/-! ### a call by keywords in a try's body -/
def tCallNS (n m : Nat) (sp : Sp) (gV : List V → List V → List V) (E : L2.St → XK) (t tk : TA) : TE := fun σ H Q => t σ H fun vs H1 => tk σ H1 fun zs H2 => vs.length = n ∧ zs.length = m ∧ sp (gV vs zs) H2 Q (E σ)
section
variable {X : Cx} {CX : CXT} {k n : Nat} {f : Addr} {fd : FuncData} {ps ks : List Str} {sp : Sp} {E : L2.St → XK} {x : Str} {p pos : Pos} {e : Expr} {es : List Expr} {kws : List Keyword} {t tk : TA} {g : List Value → List Value → List Value} {gV : List V → List V → List V}
theorem run_fnNS {pins : List (Addr × Obj)} {σ : L2.St} {H : Hp} {s : Shared} {Q : VK} {us ws : List Value} {vs zs : List V} (F : FnOk X.prog X.w X.K X.mg X.base CX k f fd ps sp) (hr : Room k X.A) (hb : KBn X.K fd ps n ks g gV) (hx : PassesAt CX X σ (E σ))
    (I : Inv X pins σ H s) (r : Vals vs us) (rz : Vals zs ws) (l1 : vs.length = n) (l2 : zs.length = ks.length) (h : sp (gV vs zs) H Q (E σ)) : wpAny (model X.prog X.w) X.A (call (.ref f) us (ks.zip ws)) (EP X pins σ Q) X.xe s := by
  have r2 := hb.rel r rz
  refine wpAny_call (codeAny_mono (F.run X.A X.stack s H ⟨us, ks.zip ws⟩ (g us ws) (gV vs zs) Q (E σ) hr I.env0 (hb.to s us ws I.kIn (r.length.symm.trans l1) (rz.length.symm.trans l2)) r2 h) fun r s' hq => ?_)
  cases r with
  | error e => exact hx pins H s e s' I hq
  | ok fl =>
    cases fl with
    | ret u => exact I.after hq
    | next => exact False.elim hq
    | brk => exact False.elim hq
    | cont => exact False.elim hq
theorem pe_callNS (F : FnOk X.prog X.w X.K X.mg X.base CX k f fd ps sp) (hr : Room k X.A) (hg : Gl X x) (hm : X.mg x = some (.ref f)) (hk : PySem.W.keepIn X.K (.ref f) = true) (hb : KBn X.K fd ps n ks g gV) (hx : ∀ σ, PassesAt CX X σ (E σ))
    (ha : PA X (e :: es) t) (hkw : PK X kws tk) (hall : (backToKw pos (keywordEach kws X.env)).all (·.1.isSome) = true := by rfl) (hks : (backToKw pos (keywordEach kws X.env)).filterMap (·.1) = ks := by rfl)
    (hdb : (x == ("__debug__" : Str)) = false := by decide) (he : starEach (e :: es) X.env = (false, eval e X.env) :: starEach es X.env := by rfl)
    (hpl : ((backTo pos (starEach (e :: es) X.env)).any (·.1) || (backToKw pos (keywordEach kws X.env)).any (·.1.isNone)) = false := by rfl) :
    PE X (.Call (.Name x p) (e :: es) kws pos) (tCallNS n ks.length sp gV E t tk) := by
  refine ⟨fun pins s σ H Q I h => ?_⟩
  refine wpAny_Call_Name_kw (ld_glob I hg hm ?_ hdb)
  refine PySem.W.callWith_KW (h₀ := X.base) I.ok.mod.kin hk hall (thn (ha.run pos pins s σ H _ I h) fun us s1 ⟨vs, H1, I1, r, q⟩ => ?_) hpl he
  refine thn (hkw.run pos pins s1 σ H1 _ I1 q) fun ws s2 ⟨zs, H2, I2, rz, l1, l2, q2⟩ => ⟨I2.kIn, ?_⟩
  rw [hks]
  exact run_fnNS F hr hb (hx σ) I2 r rz l1 l2 q2
end
/-- a tuple that stands ahead -/
theorem sqT_K {K : PySem.W.Frag} {a : Addr} {o : Obj} {its : Array Value} {n : Nat} {xs : List V} (l : K.lookup a = some o) (c : o.cls = .type "tuple") (d : o.data = .seq its n) (z : its.size ≤ sizeLine) (r : Vals xs its.toList) (H : Hp) : SqT K H a xs := .inr ⟨o, its, n, l, c, d, z, r⟩
theorem SqT.tyx {K : PySem.W.Frag} {H : Hp} {a : Addr} {xs : List V} (h : SqT K H a xs) : TyX K H (.ref a) (.type "tuple") := by
  rcases h with (h | ⟨o, h⟩) | ⟨o, its, n, l, c, _⟩
  · exact .base (.tup h)
  · exact .fTuple h
  · exact .kTuple l c
/-- isinstance(x, tuple), of a tuple that stands ahead, too -/
def rIsTup (K : PySem.W.Frag) : List V → Hp → VK → Prop := fun xs H Q => (∃ x t, xs = [x, .ty "tuple"] ∧ Ty7 H x t ∧ Q (.bl (decide (t = "tuple"))) H) ∨ ∃ a ys, xs = [.ref a, .ty "tuple"] ∧ SqT K H a ys ∧ Q (.bl true) H
theorem call_isTup {X : Cx} : CallR X (.builtin "isinstance") (rIsTup X.K) := by
  intro pins s σ H xs us Q I r h
  rcases h with ⟨x, t, e, h7, q⟩ | ⟨a, ys, e, hs, q⟩
  · exact is_tuple pins s σ H xs us Q I r ⟨x, t, e, h7, q⟩
  · exact call_isi pins s σ H xs us Q I r ⟨_, _, _, _, _, e, .ty _, SqT.tyx hs, kit_ty (by decide +kernel), q⟩
theorem call_isTupK {X : Cx} {K : PySem.W.Frag} (h : X.K = K) : CallR X (.builtin "isinstance") (rIsTup K) := h ▸ call_isTup
end My

/-! ### own classes whose __init__ has keyword-only defaults -/
namespace My
open PySem PySem.Spec PyProof.Rows L2 RZ
structure Cl (K : PySem.W.Frag) (mg : Str → Option Value) (x : Str) where
  C : Addr
  g : mg x = some (.ref C)
  cls : Cls K C
def cl_mk {K : PySem.W.Frag} {mg : Str → Option Value} {x : Str} {h : Heap} (X : K.In h) (G : h.Ns mainGlobals mg) {C : Addr} (a : PySem.W.nsIn K mainGlobals x = some (some (.ref C)))
    (pg : PySem.W.plainGet K C Str.empty = true) (hd : PySem.W.hasDictIn K C = true) (po : PySem.W.plainOver K C = true) (sa : PySem.W.findIn K (.ref C) "__setattr__" = some (some (.builtin "object.__setattr__"))) : Cl K mg x :=
  ⟨C, PySem.W.mg_of X G a, ⟨pg, hd, po, sa⟩⟩
inductive KwIn (K : PySem.W.Frag) (D : Addr) : List (Str × V) → Prop
  | nil : KwIn K D []
  | cons {y : Str} {v : V} {u : Value} {l : List (Str × V)} (e : PySem.W.nsIn K D y = some (some u)) (r : RelV v u) (t : KwIn K D l) : KwIn K D ((y, v) :: l)
theorem KwIn.all {K : PySem.W.Frag} {D : Addr} : ∀ {l : List (Str × V)}, KwIn K D l → ∀ q ∈ l, ∃ u, PySem.W.nsIn K D q.1 = some (some u) ∧ RelV q.2 u
  | _, .nil, q, h => by cases h
  | _, .cons e r t, q, h => by
    rcases List.mem_cons.mp h with rfl | h
    · exact ⟨_, e, r⟩
    · exact t.all q h
structure Ini (K : PySem.W.Frag) (q : Str) (st : Stmt) (C : Addr) (kws : List (Str × V)) where
  f : Addr
  fd : FuncData
  FD : FunD K "__init__" q (defArgs st) (defBody st) (defScope st) [] kws f fd
  mks : Mk K C f
theorem Ini.F {K : PySem.W.Frag} {q : Str} {st : Stmt} {C : Addr} {kws : List (Str × V)} (d : Ini K q st C kws) : Fun K "__init__" q st d.f d.fd := by
  obtain ⟨oc, od, dV, kV, doc, pm, an, cdv, ct, osl, e, l, c, hd, _⟩ := d.FD.ex
  rcases hd with ⟨_, e2⟩ | ⟨e2, _⟩
  · subst e2
    exact ⟨⟨oc, od, kV, doc, pm, an, cdv, ct, osl, e, l, c⟩, d.FD.kp⟩
  · exact absurd rfl e2
def ini_mk {K : PySem.W.Frag} {q : Str} {st : Stmt} {C : Addr} {kws : List (Str × V)} {f D : Addr} {oc : Value} {od an : Option Addr} {osl : Array (Option Value)} {doc pm cdv ct : Value}
    (i : PySem.W.findIn K (.ref C) "__init__" = some (some (.ref f))) (m : PySem.W.makesIn K C = true) (fn : PySem.W.isFn K (.ref f) = true) (kc : PySem.W.keepIn K (.ref C) = true)
    (l : K.lookup f = some ⟨oc, od, .func (PySem.W.fnOf "__init__" q (defArgs st) (defBody st) (defScope st) .none (.ref D) doc pm an cdv ct), osl⟩) (c : PySem.W.codeIn K cdv q = true) (k : PySem.W.keepIn K (.ref f) = true) (kw : KwIn K D kws) : Ini K q st C kws :=
  ⟨f, _, ⟨⟨oc, od, .none, .ref D, doc, pm, an, cdv, ct, osl, rfl, l, c, .inl ⟨rfl, rfl⟩, .inr ⟨D, rfl, kw.all⟩⟩, k⟩, ⟨m, i, fn, kc⟩⟩
/-- one of a list, as a list -/
def pick1 {α : Type} (i : Nat) (l : List α) : List α := (l.drop i).take 1
theorem vals_pick {xs : List V} {us : List Value} (r : Vals xs us) (i : Nat) : Vals (pick1 i xs) (pick1 i us) := (r.drop i).take 1
/-! #### o.f as a target among others -/
def gFld (K : PySem.W.Frag) (to : TE) (f : Str) : TG := fun y σ H Q => to σ H fun x H2 => ∃ a C dx fs, x = .ref a ∧ H2 a = some (.ins C dx fs) ∧ Cls K C ∧ NoAttr K C f ∧ fs.length < 1000 ∧ Q σ (upd H2 a (.ins C dx (putF f y fs)))
theorem pg_fld {X : Cx} {o : Expr} {f : Str} {pos : Pos} {to : TE} (ho : PE X o to) : PG X (.Attribute o f pos) (gFld X.K to f) := by
  refine ⟨fun pins s σ H v u Q I r h => ?_⟩
  rw [assign_Attribute]
  refine wpAny_bind (wpAny_holding (thn (ho.run pins s σ H _ I h) fun ov s2 ⟨x, H2, I2, rx, a, C, dx, fs, ex, ea, c, n, l, q2⟩ => ?_))
  subst ex
  obtain rfl : ov = Value.ref a := rx
  exact wpAny_bind (wpAny_standAt (wpAny_bind (wpAny_holding (setattr_ok I2 ea c n l r fun s3 I3 => wpAny_release ⟨σ, _, I3, q2⟩))))
theorem pg_fldK {X : Cx} {K : PySem.W.Frag} (h : X.K = K) {o : Expr} {f : Str} {pos : Pos} {to : TE} (ho : PE X o to) : PG X (.Attribute o f pos) (gFld K to f) := h ▸ pg_fld ho
/-! #### zip of two tuples -/
theorem pi_zipAK {X : Cx} {K : PySem.W.Frag} (h : X.K = K) {e e2 : Expr} {ta : TA} {p pos tpos : Pos} {elts : List Expr} {kk : Nat} (hg : Gl X "zip") (hm : X.mg "zip" = none) (ha : PA X [e, e2] ta)
    (he : starEach [e, e2] X.env = (false, eval e X.env) :: starEach [e2] X.env := by rfl) (hpl : (backTo pos (starEach [e2] X.env)).any (·.1) = false := by rfl) : PI X (.Tuple elts kk tpos) (.Call (.Name "zip" p) [e, e2] [] pos) (iZipA K ta) := h ▸ pi_zipA hg hm ha he hpl
section
variable {K : PySem.W.Frag} {g : TG} {tt : TT} {te : TE} {vs : List Nat} {σ : L2.St} {H1 : Hp} {D a b : Addr} {Qd : Hp → Prop} {xs zs : List V} {n : Nat}
theorem lcZT (hlen : xs.length = zs.length) (P : Nat → List V → Hp → Prop) (h0 : ∀ H', Same H1 H' → H' D = some (.lst []) → P 0 [] H') (hD : H1 D = none) (hl : ∀ i acc H, P i acc H → SqT K H a xs ∧ SqT K H b zs)
    (hs : ∀ i x z acc H T H' Kt Kf, xs[i]? = some x → zs[i]? = some z → P i acc H → H D = some (.lst acc) → H T = none → Same H H' → H' T = some (.tup [x, z]) → LcK D (P (i + 1)) acc Kt Kf → LcT g tt te vs σ (.ref T) H' Kt Kf)
    (hd : ∀ acc H, P xs.length acc H → H D = some (.lst acc) → Qd H) : LcG (ItzT K a b) g tt te vs σ H1 D Qd := by
  refine ⟨fun i m H => m = xs.length - i ∧ i ≤ xs.length ∧ ∃ acc, H D = some (.lst acc) ∧ P i acc H, ⟨xs.length, rfl, Nat.zero_le _, [], upd_same, h0 _ (Same.upd0 hD) upd_same⟩, ?_⟩
  rintro i m H ⟨rfl, hi, acc, e, p⟩
  obtain ⟨q1, q2⟩ := hl i acc H p
  by_cases hlt : i < xs.length
  · have hlt2 : i < zs.length := by omega
    refine .inr ⟨⟨xs, zs, xs[i], zs[i], q1, q2, by simp [hlt], by simp [hlt2]⟩, fun H => ∃ acc, H D = some (.lst acc) ∧ P (i + 1) acc H, fun H' p' => ⟨xs.length - (i + 1), by omega, rfl, hlt, p'⟩, fun v H' y => ?_⟩
    obtain ⟨T, x, z, rfl, nT, rfl, hx, hz⟩ := y
    exact hs i x z acc H T _ _ _ (hx xs q1) (hz zs q2) p e nT (Same.upd0 nT) upd_same ⟨fun y H4 e4 z k => ⟨acc, e4, z, acc ++ [y], upd_same, k _ But.refl.upd upd_same⟩, fun H3 e3 k => ⟨acc, e3, k⟩⟩
  · have ei : i = xs.length := by omega
    subst ei
    exact .inl ⟨⟨xs, zs, q1, q2, .inl (Nat.le_refl _)⟩, hd acc H p e⟩
/-- .. all the same thing -/
theorem lcZTc (v : V) (hlen : xs.length = zs.length) (hD : H1 D = none) (ha : SqT K H1 a xs) (hb : SqT K H1 b zs) (hz : xs.length ≤ 100000)
    (hs : ∀ (i : Nat) (x z : V) (T : Addr) (H' : Hp) (Kt : V → Hp → Prop) (Kf : Hp → Prop), xs[i]? = some x → zs[i]? = some z → Same H1 H' → H' T = some (.tup [x, z]) → (∀ H4, Same H' H4 → Kt v H4) → LcT g tt te vs σ (.ref T) H' Kt Kf)
    (hd : ∀ H, Same H1 H → H D = some (.lst (List.replicate xs.length v)) → Qd H) : LcG (ItzT K a b) g tt te vs σ H1 D Qd :=
  lcZT hlen (fun i acc H => acc = List.replicate i v ∧ Same H1 H) (fun H' s _ => ⟨rfl, s⟩) hD (fun i acc H p => ⟨Same.seqT p.2 ha, Same.seqT p.2 hb⟩)
    (fun i x z acc H T H' Kt Kf hx hz' p e nT s gT k => by
      obtain ⟨rfl, sm⟩ := p
      have hi := (List.getElem?_eq_some_iff.mp hx).1
      refine hs i x z T H' Kt Kf hx hz' (sm.trans s) gT fun H4 s4 => k.yes v H4 (s4 _ _ (s _ _ e)) (by rw [List.length_replicate, sizeLine_eq]; omega) fun H5 b5 _ => ⟨List.replicate_succ'.symm, Same.mut' ((sm.trans s).trans s4) b5 hD⟩)
    (fun acc H p e => hd H p.2 (by rw [← p.1]; exact e))
end
end My

/-! ### making instances where the __init__ may raise; isinstance of own instances -/
namespace My
open PySem PySem.Spec PyProof.Rows L2
def tMakeKS (C : Addr) (n m : Nat) (sp : Sp) (gV : List V → List V → List V) (E : L2.St → XK) (t tk : TA) : TE := fun σ H Q => t σ H fun vs H1 => tk σ H1 fun zs H2 => vs.length = n ∧ zs.length = m ∧ ∀ x dx, H2 x = none → H2 dx = none → dx ≠ x →
  sp (gV (.ref x :: vs) zs) (upd (upd H2 dx (.own x)) x (.ins C dx [])) (fun v H3 => v = .non ∧ Q (.ref x) H3) (E σ)
section
variable {X : Cx} {CX : CXT} {k n : Nat} {f C : Addr} {fd : FuncData} {ps ks : List Str} {sp : Sp} {E : L2.St → XK} {x : Str} {p pos : Pos} {e : Expr} {es : List Expr} {kws : List Keyword} {t tk : TA} {g : List Value → List Value → List Value} {gV : List V → List V → List V}
theorem run_makeKS {pins : List (Addr × Obj)} {σ : L2.St} {H : Hp} {s : Shared} {Q : VK} {us ws : List Value} {vs zs : List V} (M : Mk X.K C f) (F : FnOk X.prog X.w X.K X.mg X.base CX k f fd ps sp) (hr : Room (k + 1) X.A) (hb : KBn X.K fd ps (n + 1) ks g gV) (hx : PassesAt CX X σ (E σ))
    (I : Inv X pins σ H s) (r : Vals vs us) (rz : Vals zs ws) (l1 : vs.length = n) (l2 : zs.length = ks.length)
    (h : ∀ x dx, H x = none → H dx = none → dx ≠ x → sp (gV (.ref x :: vs) zs) (upd (upd H dx (.own x)) x (.ins C dx [])) (fun v H2 => v = .non ∧ Q (.ref x) H2) (E σ)) :
    wpAny (model X.prog X.w) X.A (call (.ref C) us (ks.zip ws)) (EP X pins σ Q) X.xe s := by
  have hq := h (s.heap.objs.size + 1) s.heap.objs.size (I.hok.fresh (Nat.le_succ _)) (I.hok.fresh (Nat.le_refl _)) (Nat.ne_of_lt (Nat.lt_succ_self _))
  have I2 := Inv.made (C := C) I
  have r1 : Vals (V.ref (s.heap.objs.size + 1) :: vs) (Value.ref (s.heap.objs.size + 1) :: us) := .cons rfl r
  have r2 := hb.rel r1 rz
  have n1 : (Value.ref (s.heap.objs.size + 1) :: us).length = n + 1 := by
    rw [List.length_cons, ← r.length, l1]
  refine wpAny_call (make_map (f := f) I.kIn M.makes M.init (beq_iff_eq.mp M.fn) (codeAny_mono (F.run _ X.stack _ _ ⟨Value.ref (s.heap.objs.size + 1) :: us, ks.zip ws⟩ (g (Value.ref (s.heap.objs.size + 1) :: us) ws) _ _ (E σ) (hr.make C us (ks.zip ws))
    (I2.env0.make C us (ks.zip ws)) (hb.to _ (Value.ref (s.heap.objs.size + 1) :: us) ws I2.kIn n1 (rz.length.symm.trans l2)) r2 hq) fun r s' hq' => ?_))
  cases r with
  | error e => exact hx pins _ _ e s' I2 hq'
  | ok fl =>
    cases fl with
    | ret u =>
      obtain ⟨v, H', I3, rv, ev, q3⟩ := I2.after hq'
      subst ev
      exact ⟨rv, ⟨V.ref (s.heap.objs.size + 1), H', I3, rfl, q3⟩⟩
    | next => exact False.elim hq'
    | brk => exact False.elim hq'
    | cont => exact False.elim hq'
/-- C(e, .., k = v, ..) in a try's body -/
theorem pe_makeKS (M : Mk X.K C f) (F : FnOk X.prog X.w X.K X.mg X.base CX k f fd ps sp) (hr : Room (k + 1) X.A) (hg : Gl X x) (hm : X.mg x = some (.ref C)) (hb : KBn X.K fd ps (n + 1) ks g gV) (hx : ∀ σ, PassesAt CX X σ (E σ)) (ha : PA X (e :: es) t) (hkw : PK X kws tk)
    (hall : (backToKw pos (keywordEach kws X.env)).all (·.1.isSome) = true := by rfl) (hks : (backToKw pos (keywordEach kws X.env)).filterMap (·.1) = ks := by rfl) (hdb : (x == ("__debug__" : Str)) = false := by decide)
    (he : starEach (e :: es) X.env = (false, eval e X.env) :: starEach es X.env := by rfl) (hpl : ((backTo pos (starEach (e :: es) X.env)).any (·.1) || (backToKw pos (keywordEach kws X.env)).any (·.1.isNone)) = false := by rfl) :
    PE X (.Call (.Name x p) (e :: es) kws pos) (tMakeKS C n ks.length sp gV E t tk) := by
  refine ⟨fun pins s σ H Q I h => ?_⟩
  refine wpAny_Call_Name_kw (ld_glob I hg hm ?_ hdb)
  refine PySem.W.callWith_KW (h₀ := X.base) I.ok.mod.kin M.kp hall (thn (ha.run pos pins s σ H _ I h) fun us s1 ⟨vs, H1, I1, r, q⟩ => ?_) hpl he
  refine thn (hkw.run pos pins s1 σ H1 _ I1 q) fun ws s2 ⟨zs, H2, I2, rz, l1, l2, q2⟩ => ⟨I2.kIn, ?_⟩
  rw [hks]
  exact run_makeKS M F hr hb (hx σ) I2 r rz l1 l2 q2
end
/-- the defaults of an __init__ called by places alone -/
theorem Ini.bx {K : PySem.W.Frag} {q : Str} {st : Stmt} {C : Addr} {kws : List (Str × V)} (d : Ini K q st C kws) {ps : List Str} (n : Nat) (hk : kws ≠ []) (hn : n + kws.length = ps.length)
    (h : ∀ (D : Addr) (doc pm : Value) (an : Option Addr) (cdv ct : Value) (us ks : List Value), us.length = n → ks.length = kws.length →
      KwChain D ((kws.map (·.1)).zip ks) (bindArgs (PySem.W.fnOf "__init__" q (defArgs st) (defBody st) (defScope st) .none (.ref D) doc pm an cdv ct) ⟨us, []⟩) (ps.zip (us ++ ks))) : ∃ ds, Vals (kws.map (·.2)) ds ∧ Binds K d.fd ps ds := d.FD.binds0 n hk hn h
/-- isinstance of an instance, by its class's chain -/
theorem kit_own {K : PySem.W.Frag} {C D : Addr} {b : Bool} (s : PySem.W.subIn K (.ref C) (.ref C) = some true) (h : PySem.W.subIn K (.ref C) (.ref D) = some b) (t : PySem.W.typeIn K (.ref D) = some (.type "type")) (hd : PySem.W.hasDictIn K D = true) : PySem.W.kitOne K (.ref C) (.ref D) = some b := by
  unfold PySem.W.kitOne
  split
  · next q =>
    have z : (Value.ref C) = .ref D := beq_iff_eq.mp q
    rw [← z, s] at h
    cases h
    rfl
  · have hc : (PySem.W.clsIn K D).isSome = true := by
      have := hd
      unfold PySem.W.hasDictIn at this
      cases q : PySem.W.clsIn K D with
      | none => rw [q] at this; cases this
      | some c => rfl
    have e2 : ((PySem.W.clsIn K D).isSome && PySem.W.typeIn K (.ref D) == some (.type "type")) = true := by rw [hc, t] <;> rfl
    show (if ((PySem.W.clsIn K D).isSome && PySem.W.typeIn K (.ref D) == some (.type "type")) = true then PySem.W.subIn K (.ref C) (.ref D) else none) = some b
    rw [if_pos e2]
    exact h
end My

/-! ### any(a list) in an except suite; lists of truths there -/
namespace My
open PySem PySem.Spec PyProof.Rows L2 HotX
section
variable {prog : Program} {w : World} {A : Around} {E : Value → Shared → Prop} {s : Shared}
theorem pyNext_list_end_hot {it l x1 : Addr} {i : Nat} {items : Array Value} {Q : Option Value → Shared → Prop} (hot : HotAt A x1 s.heap) (hne : x1 ≠ it)
    (hit : s.heap.IsListIter it l i) (hl : s.heap.IsList l items) (hx : items[i]? = none)
    (hQ : ∀ h', Heap.ExtBut it s.heap h' → Q none { s with heap := h' }) : wpAny (model prog w) A (pyNext (.ref it)) Q E s := by
  obtain ⟨o, ho, hc, hd⟩ := id hit
  obtain ⟨ol, hol, _, nl, hdl⟩ := hl
  obtain ⟨hh, o1, vs1, h1, d1, c1⟩ := hot
  unfold pyNext
  refine wpAny_bind (wpAny_attempt (wpAny_callSpecial?_slot (name := Str.ofString "__next__") hit.typeIs slot_listiter_next
    (wpAny_call_entry slot_listiter_next hit.typeIs entry_listiter_next ?_ (args_listiter_next _))))
  show wpAny _ _ (field (.ref it) 0 >>= _) _ _ s
  refine wpAny_bind (wpAny_field ho hd (x := .ref l) rfl ?_)
  show wpAny _ _ (if (Value.ref l == Value.none) = true then _ else _) _ _ s
  rw [if_neg (show ¬ ((Value.ref l == Value.none) = true) from Bool.false_ne_true)]
  show wpAny _ _ (field (.ref it) 1 >>= _) _ _ s
  refine wpAny_bind (wpAny_field ho hd (x := .int i 0) rfl ?_)
  show wpAny _ _ (seqItems? (.ref l) >>= _) _ _ s
  refine wpAny_bind (wpAny_seqItems hol hdl ?_)
  simp only [Int.toNat_natCast, hx]
  refine wpAny_bind (wpAny_rule (wpAny_bind (wpAny_setField ho hd (by simp) ?_)))
  show wpAny _ _ (newExc (.type "StopIteration") [] >>= _) _ _ _
  refine wpAny_bind ?_
  simp only [newExc, newTuple]
  refine wpAny_bind (wpAny_newObj_type ?_ (by size_fits))
  refine wpAny_bind (m := firstArgMember _ _) (wpAny_of_eq (a := Value.none) (by first | rfl | (simp only [firstArgMember]; rfl)) ?_)
  refine wpAny_newObj_type ?_ (by size_fits)
  have h1' : ∀ (o' : Obj) (f : Obj → Obj), (((s.heap.update it f).push o').get? x1 = some o1) := fun o' f => Heap.get?_push_of_some _ ((Heap.SameBut.update s.heap it f).extBut x1 o1 hne h1)
  refine raiseNew_hot ⟨hh, o1, vs1, Heap.get?_push_of_some _ (h1' _ _), d1, c1⟩ (Nat.ne_of_lt (Heap.lt_size (h1' _ _))) (Heap.get?_push_size _ rfl) rfl (by first | (simp; done) | (simp; omega) | (simp only [Array.size_append]; simp; omega)) ?_
  refine wpAny_bind (wpAny_isInstance (T := "StopIteration") (b := true) ⟨_, Heap.get?_update_self _ (Heap.get?_push_size _ rfl) rfl, rfl⟩ isSubtype_stop ?_)
  refine wpAny_pure (hQ _ fun b o nb e => ?_)
  have e2 := (Heap.SameBut.update s.heap it (Obj.mapFields (·.setIfInBounds 0 Value.none))).extBut b o nb e
  rw [Heap.get?_update_other _ _ (Nat.ne_of_gt (Heap.lt_size (Heap.get?_push_of_some _ e2)))]
  exact Heap.get?_push_of_some _ (Heap.get?_push_of_some _ e2)
/-- the object of a handled exception -/
def CtxAt (x1 : Addr) (h : Heap) : Prop := ∃ (o : Obj) (vs : Array Value), h.get? x1 = some o ∧ o.data = .fields vs ∧ vs[2]? = some .none
theorem walks_listH {x1 : Addr} (hh : A.handled = some (.ref x1)) (I ax : Addr) (hne : ax ≠ I) (hx : x1 ≠ I) (items : Array Value) :
    Walks prog w A I [I, ax, x1] [I] items.size (fun i v => items[i]? = some v) (fun i h => h.IsListIter I ax i ∧ h.IsList ax items ∧ CtxAt x1 h) where
  sub := fun b hb => by simp at hb; simp [hb]
  frame := fun _ _ _ st hk => ⟨st.1.at fun o e => hk I (by simp) o e, st.2.1.at fun o e => hk ax (by simp) o e, let ⟨o, vs, a, b, c⟩ := st.2.2; ⟨o, vs, hk x1 (by simp) o a, b, c⟩⟩
  item := fun i s Q E hi st hQ => by
    refine wpAny_pyNext_list_item st.1 st.2.1 (x := items[i]) (by simp [hi]) fun h' hit' hs' => ?_
    exact hQ _ h' s.toks (by simp [hi]) ⟨hit', st.2.1.extBut hs'.extBut hne, let ⟨o, vs, a, b, c⟩ := st.2.2; ⟨o, vs, hs'.extBut x1 o hx a, b, c⟩⟩ fun b o hb e => hs'.extBut b o (fun h => hb (by simp [h])) e
  done := fun s Q E st hQ => pyNext_list_end_hot ⟨hh, st.2.2⟩ hx st.1 st.2.1 (by simp) fun h' he' => hQ h' s.toks fun b o hb e => he' b o (fun h => hb (by simp [h])) e
  self := fun _ _ _ _ st hQ => wpAny_pyIter_listiter st.1 hQ
end
theorem cr_anyH {X : Cx} (hc : L2H.HotC X) : CallR X (.builtin "any") (rAny X.K) := by
  intro pins s σ H vs us Q I r h
  obtain ⟨a, bs, rfl, hs, q⟩ := h
  obtain ⟨its, rv, hl, _⟩ := I.list hs
  rw [Vals.ref1 r]
  have hb := rv.bls
  obtain ⟨x1, hh, hx⟩ := hc.at I
  refine call_any_walk (iter_any hl.isList fun s₂ e2 st hne => ?_)
  subst e2
  obtain ⟨o1, vs1, h1, d1, c1⟩ := hx
  have lx : x1 < s.heap.objs.size := Heap.lt_size h1
  refine ⟨_, _, _, _, _, _, _, rfl, walks_listH (A := X.A.in1) (x1 := x1) hh _ a hne (Nat.ne_of_lt lx) its.toArray, ⟨st.1, st.2, o1, vs1, Heap.get?_push_of_some _ h1, d1, c1⟩, truth_bools hb, fun h' tk hk => ?_⟩
  refine ⟨.bl _, H, I.kept fun b o eo => hk b o (fun hmem => ?_) (Heap.get?_push_of_some _ eo), ?_, q⟩
  · rcases List.mem_cons.mp hmem with e1 | hmem
    · exact absurd (e1 ▸ Heap.lt_size eo) (Nat.lt_irrefl _)
    · cases hmem
  · show Value.bool _ = Value.bool _
    rw [← L2.any_range, hb, List.size_toArray, List.length_map]
theorem cr_anyHK {X : Cx} {K : PySem.W.Frag} (hc : L2H.HotC X) (h : X.K = K) : CallR X (.builtin "any") (rAny K) := h ▸ cr_anyH hc
/-- a suite's context bears the exception, its context None -/
theorem hot_suite {X : Cx} {a : Addr} {oe : Obj} {cls : Value} {d : Option Addr} {pn : List (Addr × Obj)} (hz : L2N.Zn cls d oe) (hf : ∃ vs, oe.data = .fields vs) : L2H.HotC (X.suite a ((a, oe) :: pn)) := by
  obtain ⟨vs, e⟩ := hf
  exact ⟨(a, oe), ⟨rfl, vs, e, hz.2.2 vs e⟩, List.mem_cons_self⟩
end My
namespace L2
open PySem PySem.Spec PyProof.Rows
section
variable {P : Program} {w : World} {K : PySem.W.Frag} {mg : Str → Option Value} {base : Heap}
/-- as Fun.okX, what is raised has no context -/
theorem Fun.okN {x qual : Str} {st : Stmt} {f : Addr} {fd : FuncData} {N ps : List Str} {k : Nat} {sp : Sp} (F : Fun K x qual st f fd) (S : FnScope N ps (defScope st)) (len : ∀ vs H Q E, sp vs H Q E → vs.length = ps.length)
    (hbody : ∀ (cdv : Value) (A : Around) (outer : List Env) (s : Shared) (H : Hp) (vs : List V) (Q : VK) (E : XK), Room k (A.deeper (envOfC qual (defScope st) s.heap.objs.size f cdv)) → sp vs H Q E →
      ∃ t, PSs (cxOf (L2N.CX P w) P w K mg base N qual (defScope st) f cdv A outer s H E) (defBody st) t ∧ t { nx := fun _ H' => Q .non H', rt := Q } (start N vs) H) : FnOk P w K mg base (L2N.CX P w) (k + 1) f fd ps sp := by
  obtain ⟨oc, od, kV, doc, pm, an, cdv, ct, osl, rfl, lk, hcd⟩ := F.ex
  exact fn_of lk hcd S len fun A outer s H vs Q E hr hsp => hbody cdv A outer s H vs Q E hr hsp
end
end L2
namespace My
open PySem PySem.Spec PyProof.Rows L2
theorem takes0N {X : Cx} : L2N.Takes X (fun _ _ _ _ => False) := fun _ _ x => by
  obtain ⟨_, _, _, _, _, _, _, _, _, _, _, _, _, _, _, _, z⟩ := x
  exact z.elim
theorem passLN {X : Cx} : Passes (L2N.CX X.prog X.w) X E0 := fun _ _ _ _ _ _ _ h => by
  obtain ⟨_, _, _, _, _, _, _, _, _, _, _, _, z⟩ := h
  exact z.elim
end My

/-! ### == and != of two instances of one class with a text's own __eq__ -/
namespace My
open PySem PySem.Spec PyProof.Rows L2
/-- the reading: what the own == promises -/
def rNeI (C : Addr) (sp : Sp) (E : XK) : R2 := fun x y H Q => ∃ (a b dx dy : Addr) (fs gs : List (Str × V)), x = .ref a ∧ y = .ref b ∧ H a = some (.ins C dx fs) ∧ H b = some (.ins C dy gs) ∧
  sp [.ref a, .ref b] H (fun v H' => ∃ r, v = .bl r ∧ Q (.bl (!r)) H') E
def rEqI (C : Addr) (sp : Sp) (E : XK) : R2 := fun x y H Q => ∃ (a b dx dy : Addr) (fs gs : List (Str × V)), x = .ref a ∧ y = .ref b ∧ H a = some (.ins C dx fs) ∧ H b = some (.ins C dy gs) ∧
  sp [.ref a, .ref b] H (fun v H' => ∃ r, v = .bl r ∧ Q (.bl r) H') E
section
variable {prog : Program} {w : World} {A : Around} {E : Value → Shared → Prop} {s : Shared} {K : PySem.W.Frag} {x C f : Addr} {ox : Obj} {od : Option Obj} {b : Value}
theorem call_objNe {Q : Value → Shared → Prop} (hu : A.units + 1 < cLine) (X : K.In s.heap) (I : PySem.W.InstAt s.heap x ox C od) (hm : PySem.W.mroIn K C (.type "object") = some true) (hs : PySem.W.findIn K (.ref C) "__eq__" = some (some (.ref f))) (hf : PySem.W.isFn K (.ref f) = true)
    (h : wpAny (model prog w) A.in1 (call (.ref f) [.ref x, b]) (fun v s' => ∃ r, v = .bool r ∧ Q (.bool (!r)) s') E s) :
    wpAny (model prog w) A (call (.builtin "object.__ne__") [.ref x, b]) Q E s := by
  refine wpAny_call (codeAny_call_builtin F.cmp_object.ne.plain F.cmpEntry_ne (PySem.W.check_slot F.cmpKind_ne F.cmpSplit_ne (I.type.andThen (PySem.W.looks_mroIn X hm)) (F.cmpArgs_ne _ _) ?_))
  unfold Builtin.«object.__ne__»
  repeat (first
    | with_reducible refine wpAny_cRoomFor (show A.in1.units < cLine from hu) ?_
    | (refine wpAny_bind (m := callSpecialIfBound? (.ref x) (Str.ofString "__eq__") [b])
        (PySem.W.ifBound_K X I hs hf (wpAny_mono h (fun r s' hr => by
          obtain ⟨b, rfl, hq⟩ := hr
          repeat (first | exact ⟨_, rfl, hq⟩ | exact hq | exact wpAny_pure hq | exact wpAny_truthy_bool hq | (refine wpAny_bind (m := truthy (.bool _)) (wpAny_truthy_bool ?_)) | wp_step)) fun _ _ e => e)))
    | wp_step)
theorem ifBound_objNe {args : List Value} {Q : Option Value → Shared → Prop} (X : K.In s.heap) (I : PySem.W.InstAt s.heap x ox C od) (hs : PySem.W.findIn K (.ref C) "__ne__" = some (some (.builtin "object.__ne__")))
    (h : wpAny (model prog w) A (call (.builtin "object.__ne__") (.ref x :: args)) (fun v => Q (some v)) E s) : wpAny (model prog w) A (callSpecialIfBound? (.ref x) "__ne__" args) Q E s := by
  simp only [callSpecialIfBound?, bindSpecialIfBound?]
  refine wpAny_holding (wpAny_bind (wpAny_bind (wpAny_bind (I.type.here ((PySem.W.looks_findIn X hs).here ?_)))))
  refine wpAny_bind (wpAny_askSetting (wpAny_ite ?_))
  have fin : wpAny (model prog w) A (call (.builtin "object.__ne__") ([.ref x] ++ args) >>= fun v => pure (some v)) Q E s := wpAny_bind (wpAny_mono h (fun v s' h' => wpAny_pure h') fun _ _ h' => h')
  split
  · exact wpAny_bind (wpAny_of_eq (F.cmp_object.ne.bind _) (wpAny_pure (by exact fin)))
  · exact wpAny_tryCatch (wpAny_bind (wpAny_of_eq (F.cmp_object.ne.bind _) (wpAny_pure (by exact fin))))
/-- != of two instances of one class, by the own __eq__ -/
theorem rc_neI {y : Addr} {oy : Obj} {od' : Option Obj} {Q : Value → Shared → Prop} (hu : A.units + 1 < cLine) (X : K.In s.heap) (I : PySem.W.InstAt s.heap x ox C od) (J : PySem.W.InstAt s.heap y oy C od') (hm : PySem.W.mroIn K C (.type "object") = some true)
    (hs : PySem.W.findIn K (.ref C) "__eq__" = some (some (.ref f))) (hn : PySem.W.findIn K (.ref C) "__ne__" = some (some (.builtin "object.__ne__"))) (hf : PySem.W.isFn K (.ref f) = true)
    (h : wpAny (model prog w) A.in1 (call (.ref f) [.ref x, .ref y]) (fun v s' => ∃ r, v = .bool r ∧ Q (.bool (!r)) s') E s) : wpAny (model prog w) A (richCompare .NotEq (.ref x) (.ref y)) Q E s := by
  have one : wpAny (model prog w) A (tryCompare (.ref x) "__ne__" (.ref y)) (fun r s' => ∃ v, r = some v ∧ Q v s') E s := by
    unfold tryCompare
    refine wpAny_bind (ifBound_objNe X I hn (call_objNe hu X I hm hs hf (wpAny_mono h (fun v s' hv => ?_) fun _ _ e => e)))
    obtain ⟨r, rfl, hq⟩ := hv
    exact ⟨r, rfl, wpAny_pure ⟨_, rfl, hq⟩⟩
  unfold richCompare
  simp only [oneThing_ref]
  refine wpAny_holding (wpAny_bind (wpAny_cRoomFor (by omega) ?_))
  rw [cmpInfo_NotEq]
  refine wpAny_bind (I.type.here (wpAny_bind (J.type.here ?_)))
  rw [show (Value.ref C != Value.ref C) = false from by simp]
  simp only [Bool.false_eq_true, if_false]
  refine wpAny_bind (wpAny_pure ?_)
  simp only [Bool.false_eq_true, if_false]
  refine wpAny_bind (wpAny_mono one (fun r s' z => ?_) fun _ _ e => e)
  obtain ⟨v, rfl, hq⟩ := z
  exact wpAny_pure hq
end
section
variable {X : Cx} {CX : CXT} {n : Nat} {C f : Addr} {fd : FuncData} {ps : List Str} {sp : Sp} {E : XK}
theorem op_neI (F : FnOk X.prog X.w X.K X.mg X.base CX n f fd ps sp) (hr : Room (n + 1) X.A) (hm : PySem.W.mroIn X.K C (.type "object") = some true) (hs : PySem.W.findIn X.K (.ref C) "__eq__" = some (some (.ref f))) (hn : PySem.W.findIn X.K (.ref C) "__ne__" = some (some (.builtin "object.__ne__")))
    (hf : PySem.W.isFn X.K (.ref f) = true) (hb : Binds X.K fd ps []) (hx : Passes CX X E) : OpR X (compareOp .NotEq) (rNeI C sp E) := by
  intro pins s σ H x y u v Q I rx ry h
  obtain ⟨a, b, dx, dy, fs, gs, rfl, rfl, ha, hb', hsp⟩ := h
  cases rx
  cases ry
  obtain ⟨mA, J, _⟩ := ins_get I.hok ha
  obtain ⟨mB, J', _⟩ := ins_get I.hok hb'
  obtain ⟨od, J, _⟩ := J.look
  obtain ⟨od', J', _⟩ := J'.look
  show wpAny (model X.prog X.w) X.A (richCompare .NotEq (.ref a) (.ref b)) (EP X pins σ Q) X.xe s
  refine rc_neI (show X.A.in1.units < cLine from hr.in1.units0) I.kIn J J' hm hs hn hf ?_
  have hl := F.len _ _ _ _ hsp
  have r2 : Vals [V.ref a, V.ref b] [Value.ref a, Value.ref b] := .cons rfl (.cons rfl .nil)
  have e0 : Env0 X.prog X.w X.K X.mg X.base X.A.in1 X.stack s H := have e := I.env0; ⟨e.frames, e.mod, e.bs, e.bsz, e.funs, e.frf, e.hok, e.bare⟩
  refine wpAny_call (codeAny_mono (F.run X.A.in1 X.stack s H ⟨[.ref a, .ref b], []⟩ [.ref a, .ref b] [.ref a, .ref b] _ E hr.in1 e0 (by
    have := hb s [.ref a, .ref b] I.kIn (by simpa using hl)
    simpa using this) r2 hsp) fun r s' hq => ?_)
  cases r with
  | error e => exact hx pins σ H s e s' I hq
  | ok fl =>
    cases fl with
    | ret w =>
      obtain ⟨z, H', I', rz, r, ez, q⟩ := I.after hq
      subst ez
      cases (show w = Value.bool r from rz)
      exact ⟨r, rfl, .bl (!r), H', I', rfl, q⟩
    | next => exact False.elim hq
    | brk => exact False.elim hq
    | cont => exact False.elim hq
theorem op_neIK {K : PySem.W.Frag} (hK : X.K = K) (F : FnOk X.prog X.w K X.mg X.base CX n f fd ps sp) (hr : Room (n + 1) X.A) (hm : PySem.W.mroIn K C (.type "object") = some true) (hs : PySem.W.findIn K (.ref C) "__eq__" = some (some (.ref f))) (hn : PySem.W.findIn K (.ref C) "__ne__" = some (some (.builtin "object.__ne__")))
    (hf : PySem.W.isFn K (.ref f) = true) (hb : Binds K fd ps []) (hx : Passes CX X E) : OpR X (compareOp .NotEq) (rNeI C sp E) := by
  subst hK
  exact op_neI F hr hm hs hn hf hb hx
end
/-- a method of an own class, with its facts -/
structure Mt (K : PySem.W.Frag) (x qual : Str) (st : Stmt) (C : Addr) (ps : List Str) where
  f : Addr
  fd : FuncData
  F : Fun K x qual st f fd
  b : Binds K fd ps []
  s : PySem.W.findIn K (.ref C) x = some (some (.ref f))
  n : PySem.W.isFn K (.ref f) = true
theorem Mt.meth {K : PySem.W.Frag} {x qual : Str} {st : Stmt} {C : Addr} {ps : List Str} (d : Mt K x qual st C ps) : Meth K C x d.f := ⟨d.s, d.n, d.F.kp⟩
def mt_mk {K : PySem.W.Frag} {x qual : Str} {st : Stmt} {C : Addr} {ps : List Str} {f : Addr} {oc : Value} {od an : Option Addr} {osl : Array (Option Value)} {kV doc pm cdv ct : Value}
    (a : PySem.W.findIn K (.ref C) x = some (some (.ref f))) (l : K.lookup f = some ⟨oc, od, .func (PySem.W.fnOf x qual (defArgs st) (defBody st) (defScope st) .none kV doc pm an cdv ct), osl⟩)
    (c : PySem.W.codeIn K cdv qual = true) (k : PySem.W.keepIn K (.ref f) = true) (n : PySem.W.isFn K (.ref f) = true)
    (hb : ∀ (kV doc pm : Value) (an : Option Addr) (cdv ct : Value) (us : List Value), us.length = ps.length → bindArgs (PySem.W.fnOf x qual (defArgs st) (defBody st) (defScope st) .none kV doc pm an cdv ct) ⟨us, []⟩ = pure (ps.zip us)) : Mt K x qual st C ps :=
  ⟨f, _, fun_mk l c k, (fun_mk l c k).binds hb, a, n⟩
end My

/-! ### styles: told values, fields, alike -/
namespace My
open PySem L2
abbrev sX (s : String) : V := .str (Str.ofString s)
def lettersL : List Nat := (Str.ofString "abcdefghijklmnopqrstuvwxyz").cps.toList
def NameOk (l : List Nat) : Prop := 1 ≤ l.length ∧ l.length ≤ 8 ∧ ∀ c ∈ l, c ∈ lettersL
inductive SzAt (H : Hp) : V → Prop
  | non : SzAt H .non
  | cells (n : Nat) : SzAt H (.int (n : Int))
  | part (a : Addr) (n : Nat) (h : H a = some (.tup [sX "part", .int (n : Int)])) : SzAt H (.ref a)
  | tie (a : Addr) (l : List Nat) (sd : String) (m : Int) (hl : NameOk l) (hs : sd = "wide" ∨ sd = "tall") (h : H a = some (.tup [sX "as", .str (sO l), sX sd, .int m])) : SzAt H (.ref a)
def BdAt (v : V) : Prop := v = .non ∨ ∃ n : Nat, v = .int (n : Int)
def CtAt (v : V) : Prop := ∃ n : Nat, v = .int (n : Int)
def RmAt (K : PySem.W.Frag) (H : Hp) (v : V) : Prop := ∃ (a : Addr) (n0 n1 n2 n3 : Nat), v = .ref a ∧ SqT K H a [.int (n0 : Int), .int (n1 : Int), .int (n2 : Int), .int (n3 : Int)]
def stands5 : List String := ["start", "end", "middle", "stretch", "base"]
def StAt (v : V) : Prop := v = .non ∨ ∃ s ∈ stands5, v = sX s
theorem SzAt.same {H H' : Hp} {v : V} (h : SzAt H v) (s : Same H H') : SzAt H' v := by
  cases h with
  | non => exact .non
  | cells n => exact .cells n
  | part a n h => exact .part a n (s _ _ h)
  | tie a l sd m hl hs h => exact .tie a l sd m hl hs (s _ _ h)
/-- a tuple stays where a list is changed -/
theorem tup_but {H H' : Hp} {p a : Addr} {xs zs : List V} (b : But p H H') (hp : H p = some (.lst zs)) (h : H a = some (.tup xs)) : H' a = some (.tup xs) := b.app (by rintro rfl; rw [hp] at h; cases h) h
theorem SzAt.but {H H' : Hp} {v : V} {p : Addr} {zs : List V} (h : SzAt H v) (b : But p H H') (hp : H p = some (.lst zs)) : SzAt H' v := by
  cases h with
  | non => exact .non
  | cells n => exact .cells n
  | part a n h => exact .part a n (tup_but b hp h)
  | tie a l sd m hl hs h => exact .tie a l sd m hl hs (tup_but b hp h)
theorem RmAt.same {K : PySem.W.Frag} {H H' : Hp} {v : V} (h : RmAt K H v) (s : Same H H') : RmAt K H' v := let ⟨a, n0, n1, n2, n3, e, g⟩ := h; ⟨a, n0, n1, n2, n3, e, Same.seqT s g⟩
theorem seqT_but {K : PySem.W.Frag} {H H' : Hp} {p a : Addr} {xs zs : List V} (b : But p H H') (hp : H p = some (.lst zs)) (h : SqT K H a xs) : SqT K H' a xs := by
  rcases h with (h | ⟨o, h⟩) | h
  · exact .inl (.inl (tup_but b hp h))
  · exact .inl (.inr ⟨o, b.app (by rintro rfl; rw [hp] at h; cases h) h⟩)
  · exact .inr h
theorem RmAt.but {K : PySem.W.Frag} {H H' : Hp} {v : V} {p : Addr} {zs : List V} (h : RmAt K H v) (b : But p H H') (hp : H p = some (.lst zs)) : RmAt K H' v := let ⟨a, n0, n1, n2, n3, e, g⟩ := h; ⟨a, n0, n1, n2, n3, e, seqT_but b hp g⟩
theorem RmAt.of {K : PySem.W.Frag} {H : Hp} {a : Addr} {n0 n1 n2 n3 : Nat} (h : H a = some (.tup [.int (n0 : Int), .int (n1 : Int), .int (n2 : Int), .int (n3 : Int)])) : RmAt K H (.ref a) := ⟨a, n0, n1, n2, n3, rfl, sqT h⟩
/-- the fields of a style as its __init__ lays them -/
def styF (w h lw lh mw mh g s r st : V) : List (Str × V) :=
  [("wide", w), ("high", h), ("least_wide", lw), ("least_high", lh), ("most_wide", mw), ("most_high", mh), ("grow", g), ("shrink", s), ("rims", r), ("stand", st)]
/-- all ten values good -/
structure ValsOk (K : PySem.W.Frag) (H : Hp) (w h lw lh mw mh g s r st : V) : Prop where
  w : SzAt H w
  h : SzAt H h
  lw : BdAt lw
  lh : BdAt lh
  mw : BdAt mw
  mh : BdAt mh
  g : CtAt g
  s : CtAt s
  r : RmAt K H r
  st : StAt st
theorem ValsOk.same {K : PySem.W.Frag} {H H' : Hp} {w h lw lh mw mh g s r st : V} (v : ValsOk K H w h lw lh mw mh g s r st) (m : Same H H') : ValsOk K H' w h lw lh mw mh g s r st := ⟨v.w.same m, v.h.same m, v.lw, v.lh, v.mw, v.mh, v.g, v.s, v.r.same m, v.st⟩
/-! #### alike -/
def FlAt (v : V) : Prop := (∃ i, v = .int i) ∨ ∃ s, v = .str s
def AlkAt (K : PySem.W.Frag) (H : Hp) (u v : V) : Prop := (u = v ∧ (v = .non ∨ FlAt v)) ∨ ∃ (a b : Addr) (xs : List V), u = .ref a ∧ v = .ref b ∧ SqT K H a xs ∧ H b = some (.tup xs) ∧ (∀ x ∈ xs, FlAt x) ∧ xs.length ≤ 10
theorem AlkAt.same {K : PySem.W.Frag} {H H' : Hp} {u v : V} (h : AlkAt K H u v) (s : Same H H') : AlkAt K H' u v := h.imp id fun ⟨a, b, xs, e1, e2, h1, h2, h3, h4⟩ => ⟨a, b, xs, e1, e2, Same.seqT s h1, s _ _ h2, h3, h4⟩
theorem AlkAt.but {K : PySem.W.Frag} {H H' : Hp} {u v : V} {p : Addr} {zs : List V} (h : AlkAt K H u v) (b : But p H H') (hp : H p = some (.lst zs)) : AlkAt K H' u v := h.imp id fun ⟨a, c, xs, e1, e2, h1, h2, h3, h4⟩ => ⟨a, c, xs, e1, e2, seqT_but b hp h1, tup_but b hp h2, h3, h4⟩
theorem SzAt.alk {K : PySem.W.Frag} {H : Hp} {v : V} (h : SzAt H v) : AlkAt K H v v := by
  cases h with
  | non => exact .inl ⟨rfl, .inl rfl⟩
  | cells n => exact .inl ⟨rfl, .inr (.inl ⟨_, rfl⟩)⟩
  | part a n h => exact .inr ⟨a, a, _, rfl, rfl, sqT h, h, fun x hx => by
      rcases List.mem_cons.mp hx with rfl | hx
      · exact .inr ⟨_, rfl⟩
      · rw [List.mem_singleton.mp hx]; exact .inl ⟨_, rfl⟩, Nat.le_of_ble_eq_true rfl⟩
  | tie a l sd m hl hs h => exact .inr ⟨a, a, _, rfl, rfl, sqT h, h, fun x hx => by
      rcases List.mem_cons.mp hx with rfl | hx
      · exact .inr ⟨_, rfl⟩
      rcases List.mem_cons.mp hx with rfl | hx
      · exact .inr ⟨_, rfl⟩
      rcases List.mem_cons.mp hx with rfl | hx
      · exact .inr ⟨_, rfl⟩
      · rw [List.mem_singleton.mp hx]; exact .inl ⟨_, rfl⟩, Nat.le_of_ble_eq_true rfl⟩
theorem BdAt.alk {K : PySem.W.Frag} {H : Hp} {v : V} (h : BdAt v) : AlkAt K H v v := by
  rcases h with rfl | ⟨n, rfl⟩
  · exact .inl ⟨rfl, .inl rfl⟩
  · exact .inl ⟨rfl, .inr (.inl ⟨_, rfl⟩)⟩
theorem CtAt.alk {K : PySem.W.Frag} {H : Hp} {v : V} (h : CtAt v) : AlkAt K H v v := by
  obtain ⟨n, rfl⟩ := h
  exact .inl ⟨rfl, .inr (.inl ⟨_, rfl⟩)⟩
theorem StAt.alk {K : PySem.W.Frag} {H : Hp} {v : V} (h : StAt v) : AlkAt K H v v := by
  rcases h with rfl | ⟨s, _, rfl⟩
  · exact .inl ⟨rfl, .inl rfl⟩
  · exact .inl ⟨rfl, .inr (.inr ⟨_, rfl⟩)⟩
theorem fl4 {n0 n1 n2 n3 : Int} : ∀ x ∈ [V.int n0, .int n1, .int n2, .int n3], FlAt x := fun x hx => by
  rcases List.mem_cons.mp hx with rfl | hx
  · exact .inl ⟨_, rfl⟩
  rcases List.mem_cons.mp hx with rfl | hx
  · exact .inl ⟨_, rfl⟩
  rcases List.mem_cons.mp hx with rfl | hx
  · exact .inl ⟨_, rfl⟩
  · rw [List.mem_singleton.mp hx]; exact .inl ⟨_, rfl⟩
/-! #### a comprehension over a text, all the same thing -/
section
variable {g : TG} {tt : TT} {te : TE} {vs : List Nat} {σ : L2.St} {H1 : Hp} {D : Addr} {Qd : Hp → Prop} {l : List Nat}
theorem lcSc (v : V) (hD : H1 D = none) (hz : l.length ≤ 100000)
    (hs : ∀ (i c : Nat) (H' : Hp) (Kt : V → Hp → Prop) (Kf : Hp → Prop), l[i]? = some c → Same H1 H' → (∀ H4, Same H' H4 → Kt v H4) → LcT g tt te vs σ (.str ⟨#[c]⟩) H' Kt Kf)
    (hd : ∀ H, Same H1 H → H D = some (.lst (List.replicate l.length v)) → Qd H) : LcG (Its (sO l)) g tt te vs σ H1 D Qd := by
  refine ⟨fun i m H => m = l.length - i ∧ i ≤ l.length ∧ Same H1 H ∧ H D = some (.lst (List.replicate i v)), ⟨l.length, rfl, Nat.zero_le _, Same.upd0 hD, upd_same⟩, ?_⟩
  rintro i m H ⟨rfl, hi, s, e⟩
  by_cases hlt : i < l.length
  · refine .inr ⟨?_, fun H => Same H1 H ∧ H D = some (.lst (List.replicate (i + 1) v)), fun H' p' => ⟨l.length - (i + 1), by omega, rfl, hlt, p'⟩, fun x H' y => ?_⟩
    · show i < l.toArray.size
      rw [List.size_toArray]; exact hlt
    · obtain ⟨rfl, c, hc, rfl⟩ := y
      have hc : l.toArray[i]? = some c := hc
      rw [List.getElem?_toArray] at hc
      exact hs i c H' _ _ hc s fun H4 s4 => ⟨_, s4 _ _ e, by rw [List.length_replicate, sizeLine_eq]; omega, Same.mut' (s.trans s4) But.refl.upd hD, by rw [upd_same, List.replicate_succ']⟩
  · have ei : i = l.length := by omega
    subst ei
    refine .inl ⟨?_, hd H s e⟩
    show l.toArray.size ≤ l.length
    rw [List.size_toArray]; exact Nat.le_refl _
end
theorem reps_bl (n : Nat) : List.replicate n (V.bl true) = (List.replicate n true).map V.bl := by rw [List.map_replicate]
theorem reps_all (n : Nat) : (List.replicate n true).all id = true := by
  rw [List.all_eq_true]
  intro x hx
  rw [List.eq_of_mem_replicate hx]; rfl
theorem isN_nat (n : Nat) : isN (.int (n : Int)) = true := by
  unfold isN
  simp
theorem styF_put (w h lw lh mw mh g s r st : V) : putF "stand" st (putF "rims" r (putF "shrink" s (putF "grow" g (putF "most_high" mh (putF "most_wide" mw (putF "least_high" lh (putF "least_wide" lw (putF "high" h (putF "wide" w []))))))))) = styF w h lw lh mw mh g s r st := by kernel_rfl
/-! #### ten values in a list -/
def names10 : List Str := ["wide", "high", "least_wide", "least_high", "most_wide", "most_high", "grow", "shrink", "rims", "stand"]
def styL (fs : List V) : List (Str × V) := names10.zip fs
theorem styL_F (w h lw lh mw mh g s r st : V) : styL [w, h, lw, lh, mw, mh, g, s, r, st] = styF w h lw lh mw mh g s r st := rfl
def OkF (K : PySem.W.Frag) (H : Hp) : Nat → V → Prop
  | 0, v => SzAt H v
  | 1, v => SzAt H v
  | 2, v => BdAt v
  | 3, v => BdAt v
  | 4, v => BdAt v
  | 5, v => BdAt v
  | 6, v => CtAt v
  | 7, v => CtAt v
  | 8, v => RmAt K H v
  | _, v => StAt v
def OkL (K : PySem.W.Frag) (H : Hp) (fs : List V) : Prop := fs.length = 10 ∧ ∀ (i : Nat) (v : V), fs[i]? = some v → OkF K H i v
theorem OkF.same {K : PySem.W.Frag} {H H' : Hp} {i : Nat} {v : V} (h : OkF K H i v) (s : Same H H') : OkF K H' i v :=
  match i, h with
  | 0, h => SzAt.same h s
  | 1, h => SzAt.same h s
  | 2, h => h
  | 3, h => h
  | 4, h => h
  | 5, h => h
  | 6, h => h
  | 7, h => h
  | 8, h => RmAt.same h s
  | _ + 9, h => h
theorem OkL.same {K : PySem.W.Frag} {H H' : Hp} {fs : List V} (h : OkL K H fs) (s : Same H H') : OkL K H' fs := ⟨h.1, fun i v e => (h.2 i v e).same s⟩
theorem OkL.vals {K : PySem.W.Frag} {H : Hp} {w h lw lh mw mh g s r st : V} (k : OkL K H [w, h, lw, lh, mw, mh, g, s, r, st]) : ValsOk K H w h lw lh mw mh g s r st :=
  ⟨k.2 0 _ rfl, k.2 1 _ rfl, k.2 2 _ rfl, k.2 3 _ rfl, k.2 4 _ rfl, k.2 5 _ rfl, k.2 6 _ rfl, k.2 7 _ rfl, k.2 8 _ rfl, k.2 9 _ rfl⟩
theorem ten {fs : List V} (h : fs.length = 10) : ∃ w h' lw lh mw mh g s r st, fs = [w, h', lw, lh, mw, mh, g, s, r, st] :=
  match fs, h with
  | [w, h', lw, lh, mw, mh, g, s, r, st], _ => ⟨w, h', lw, lh, mw, mh, g, s, r, st, rfl⟩
def dfltL (U : Addr) : List V := [.non, .non, .non, .non, .non, .non, .int 0, .int 1, .ref U, .non]
theorem dflt_ok {K : PySem.W.Frag} {H : Hp} {U : Addr} (t : ∀ H, SqT K H U [.int 0, .int 0, .int 0, .int 0]) : OkL K H (dfltL U) := by
  refine ⟨rfl, fun i v e => ?_⟩
  match i, e with
  | 0, e => cases e; exact .non
  | 1, e => cases e; exact .non
  | 2, e => cases e; exact .inl rfl
  | 3, e => cases e; exact .inl rfl
  | 4, e => cases e; exact .inl rfl
  | 5, e => cases e; exact .inl rfl
  | 6, e => cases e; exact ⟨0, rfl⟩
  | 7, e => cases e; exact ⟨1, rfl⟩
  | 8, e => cases e; exact ⟨U, 0, 0, 0, 0, rfl, t H⟩
  | 9, e => cases e; exact .inl rfl
  | n + 10, e => cases e
/-- told at some places -/
def mixL (fs ds : List V) (told : List Nat) : List V := (List.range 10).map fun i => if told.contains i then fs.getD i .non else ds.getD i .non
theorem mix_at {fs ds : List V} {told : List Nat} {i : Nat} (h : i < 10) : (mixL fs ds told)[i]? = some (if told.contains i then fs.getD i .non else ds.getD i .non) := by
  unfold mixL
  rw [List.getElem?_map, List.getElem?_range h]; rfl
theorem mix_ok {K : PySem.W.Frag} {H : Hp} {fs ds : List V} {told : List Nat} (hf : OkL K H fs) (hd : OkL K H ds) : OkL K H (mixL fs ds told) := by
  refine ⟨by unfold mixL; rw [List.length_map, List.length_range], fun i v e => ?_⟩
  have hi : i < 10 := by
    have := (List.getElem?_eq_some_iff.mp e).1
    unfold mixL at this
    rwa [List.length_map, List.length_range] at this
  rw [mix_at hi] at e
  cases e
  split
  · exact hf.2 i _ (by rw [List.getD_eq_getElem?_getD, List.getElem?_eq_getElem (by rw [hf.1]; exact hi)]; rfl)
  · exact hd.2 i _ (by rw [List.getD_eq_getElem?_getD, List.getElem?_eq_getElem (by rw [hd.1]; exact hi)]; rfl)
def sp_Style_init (K : PySem.W.Frag) (C : Addr) : Sp := fun vs H Q _ => ∃ (x dx : Addr) (w h lw lh mw mh g s r st : V), vs = [.ref x, w, h, lw, lh, mw, mh, g, s, r, st] ∧ H x = some (.ins C dx []) ∧ ValsOk K H w h lw lh mw mh g s r st ∧ ∀ H', But x H H' → H' x = some (.ins C dx (styF w h lw lh mw mh g s r st)) → Q .non H'
theorem make_same {H : Hp} {x dx : Addr} {o o' : HO} (fx : H x = none) (fdx : H dx = none) (n : dx ≠ x) : Same H (upd (upd H dx o) x o') := fun b u e => by
  rw [upd_ne (ne_of_none e fx), upd_ne (ne_of_none e fdx)]; exact e
theorem mk_style {K : PySem.W.Frag} {H : Hp} {C : Addr} {fs : List V} {Q : VK} {E : XK} (ok : OkL K H fs) (k : ∀ (x dx : Addr) H', Same H H' → H x = none → H' x = some (.ins C dx (styL fs)) → Q (.ref x) H') :
    ∀ x dx, H x = none → H dx = none → dx ≠ x → sp_Style_init K C (.ref x :: fs) (upd (upd H dx (.own x)) x (.ins C dx [])) (fun v H3 => v = .non ∧ Q (.ref x) H3) E := by
  intro x dx fx fdx n
  obtain ⟨w, h, lw, lh, mw, mh, g, s, r, st, rfl⟩ := ten ok.1
  have sm := make_same (o := HO.own x) (o' := HO.ins C dx []) fx fdx n
  exact ⟨x, dx, w, h, lw, lh, mw, mh, g, s, r, st, rfl, upd_same, ok.vals.same sm, fun H' b e => ⟨rfl, k x dx H' (Same.mut' sm b fx) fx e⟩⟩
theorem SzAt.dr {H H' : Hp} {a : Addr} {v : V} (h : SzAt H v) (hs : Src H a) (d : Dr a H H') : SzAt H' v := by
  obtain ⟨t, ht⟩ := hs
  exact h.but d.b ht
theorem RmAt.dr {K : PySem.W.Frag} {H H' : Hp} {a : Addr} {v : V} (h : RmAt K H v) (hs : Src H a) (d : Dr a H H') : RmAt K H' v := by
  obtain ⟨t, ht⟩ := hs
  exact h.but d.b ht
theorem tup_dr {H H' : Hp} {p a : Addr} {xs : List V} (d : Dr p H H') (hs : Src H p) (h : H a = some (.tup xs)) : H' a = some (.tup xs) := by
  obtain ⟨t, ht⟩ := hs
  exact tup_but d.b ht h
theorem four {α : Type} {us : List α} (h : us.length = 4) : ∃ a b c d, us = [a, b, c, d] :=
  match us, h with
  | [a, b, c, d], _ => ⟨a, b, c, d, rfl⟩
theorem mix_one {w h lw lh mw mh g s r st : V} {U : Addr} : ∀ {i : Nat}, i < 10 → mixL [w, h, lw, lh, mw, mh, g, s, r, st] (dfltL U) [i] = (dfltL U).set i ([w, h, lw, lh, mw, mh, g, s, r, st].getD i .non)
  | 0, _ => rfl
  | 1, _ => rfl
  | 2, _ => rfl
  | 3, _ => rfl
  | 4, _ => rfl
  | 5, _ => rfl
  | 6, _ => rfl
  | 7, _ => rfl
  | 8, _ => rfl
  | 9, _ => rfl
  | n + 10, h => absurd h (by omega)
theorem mk_mix {K : PySem.W.Frag} {H : Hp} {C U : Addr} {fs : List V} {Q : VK} {E : XK} (told : List Nat) (ok : OkL K H fs) (t : ∀ H, SqT K H U [.int 0, .int 0, .int 0, .int 0]) (k : ∀ (x dx : Addr) H', Same H H' → H x = none → H' x = some (.ins C dx (styL (mixL fs (dfltL U) told))) → Q (.ref x) H') :
    ∀ x dx, H x = none → H dx = none → dx ≠ x → sp_Style_init K C (.ref x :: mixL fs (dfltL U) told) (upd (upd H dx (.own x)) x (.ins C dx [])) (fun v H3 => v = .non ∧ Q (.ref x) H3) E :=
  mk_style (mix_ok ok (dflt_ok t)) k
theorem sty_at {K : PySem.W.Frag} {H : Hp} {C x dx : Addr} {fs : List V} {R : Hp → Prop} {E : XK} (ok : OkL K H fs) (fx : H x = none) (fdx : H dx = none) (n : dx ≠ x) (k : ∀ H', Same H H' → H' x = some (.ins C dx (styL fs)) → R H') :
    sp_Style_init K C (.ref x :: fs) (upd (upd H dx (.own x)) x (.ins C dx [])) (fun v H3 => v = .non ∧ R H3) E := by
  obtain ⟨w, h, lw, lh, mw, mh, g, s, r, st, rfl⟩ := ten ok.1
  have sm := make_same (o := HO.own x) (o' := HO.ins C dx []) fx fdx n
  exact ⟨x, dx, w, h, lw, lh, mw, mh, g, s, r, st, rfl, upd_same, ok.vals.same sm, fun H' b e => ⟨rfl, k H' (Same.mut' sm b fx) e⟩⟩
end My

/-! ### slices by plain numbers -/
namespace My
open PySem L2
theorem cutV_take (xs : List V) (j : Nat) : cutV xs none (some (j : Int)) = xs.take j := by
  unfold cutV
  rw [HT.sIx_none, HT.sIx_nat, List.drop_zero, Nat.sub_zero]
  by_cases h : j ≤ xs.length
  · rw [Nat.min_eq_left h]
  · rw [Nat.min_eq_right (by omega), List.take_of_length_le (Nat.le_refl _), List.take_of_length_le (by omega)]
theorem cutV_drop (xs : List V) (j : Nat) : cutV xs (some (j : Int)) none = xs.drop j := by
  unfold cutV
  rw [HT.sIx_none, HT.sIx_nat]
  by_cases h : j ≤ xs.length
  · rw [Nat.min_eq_left h, List.take_of_length_le (by rw [List.length_drop]; omega)]
  · rw [Nat.min_eq_right (by omega), List.drop_of_length_le (Nat.le_refl _), List.drop_of_length_le (by omega), List.take_nil]
theorem cutV_mid (xs : List V) (i j : Nat) (h : i ≤ j) : cutV xs (some (i : Int)) (some (j : Int)) = (xs.take j).drop i := by
  unfold cutV
  rw [HT.sIx_nat, HT.sIx_nat]
  by_cases h1 : i ≤ xs.length
  · by_cases h2 : j ≤ xs.length
    · rw [Nat.min_eq_left h1, Nat.min_eq_left h2, List.drop_take]
    · rw [Nat.min_eq_left h1, Nat.min_eq_right (by omega), List.take_of_length_le (by rw [List.length_drop]; omega), List.take_of_length_le (by omega)]
  · rw [Nat.min_eq_right (show xs.length ≤ i by omega), List.drop_of_length_le (Nat.le_refl _), List.take_nil, List.drop_of_length_le (by rw [List.length_take]; omega)]
theorem cutV_init (xs : List V) : cutV xs none (some (-1)) = xs.take (xs.length - 1) := by
  unfold cutV
  have e : HT.sIx xs.length xs.length (some (-1)) = xs.length - 1 := by
    show (if (-1 : Int) < 0 then ((-1 : Int) + (xs.length : Int)).toNat else min (-1 : Int).toNat xs.length) = xs.length - 1
    rw [if_pos (by decide)]; omega
  rw [HT.sIx_none, e, List.drop_zero, Nat.sub_zero]
end My

/-! ### tracks and asks: plain mathematics -/
namespace My
open PySem L2
inductive Tk where
  | cells (n : Int)
  | fit
  | share (k : Int)
  deriving DecidableEq
def Tk.free : Tk → Bool
  | .cells _ => false
  | _ => true
def Tk.told : Tk → Int
  | .cells n => n
  | _ => 0
def Tk.ok : Tk → Prop
  | .cells n => 0 ≤ n
  | .fit => True
  | .share k => 1 ≤ k
def TkAt (H : Hp) (v : V) : Tk → Prop
  | .cells n => v = .int n
  | .fit => v = .str "fit"
  | .share k => ∃ r, v = .ref r ∧ H r = some (.tup [.str "share", .int k])
theorem TkAt.mono {H H' : Hp} {v : V} {t : Tk} (h : TkAt H v t) (s : Same H H') : TkAt H' v t := by
  cases t with
  | cells n => exact h
  | fit => exact h
  | share k => obtain ⟨r, e, g⟩ := h; exact ⟨r, e, s _ _ g⟩
theorem TkAt.but {H H' : Hp} {v : V} {t : Tk} {a : Addr} {xs : List V} (h : TkAt H v t) (g : H a = some (.lst xs)) (b : But a H H') : TkAt H' v t := by
  cases t with
  | cells n => exact h
  | fit => exact h
  | share k => obtain ⟨r, e, g2⟩ := h; exact ⟨r, e, b.app (fun z => by rw [z, g] at g2; cases g2) g2⟩
/-- an item's place, and what stands there -/
def TksAt (H : Hp) (vs : List V) (ts : List Tk) : Prop := vs.length = ts.length ∧ ∀ (i : Nat) (v : V) (t : Tk), vs[i]? = some v → ts[i]? = some t → TkAt H v t
theorem TksAt.mono {H H' : Hp} {vs : List V} {ts : List Tk} (h : TksAt H vs ts) (s : Same H H') : TksAt H' vs ts := ⟨h.1, fun i v t a b => (h.2 i v t a b).mono s⟩
theorem TksAt.but {H H' : Hp} {vs : List V} {ts : List Tk} {a : Addr} {xs : List V} (h : TksAt H vs ts) (g : H a = some (.lst xs)) (b : But a H H') : TksAt H' vs ts := ⟨h.1, fun i v t x y => (h.2 i v t x y).but g b⟩
theorem TksAt.at {H : Hp} {vs : List V} {ts : List Tk} (h : TksAt H vs ts) {i : Nat} {t : Tk} (e : ts[i]? = some t) : ∃ v, vs[i]? = some v ∧ TkAt H v t := by
  have hi := (List.getElem?_eq_some_iff.mp e).1
  have l := h.1
  exact ⟨vs[i], List.getElem?_eq_getElem (by omega), h.2 i _ t (List.getElem?_eq_getElem (by omega)) e⟩
theorem TksAt.at' {H : Hp} {vs : List V} {ts : List Tk} (h : TksAt H vs ts) {i : Nat} {v : V} (e : vs[i]? = some v) : ∃ t, ts[i]? = some t ∧ TkAt H v t := by
  have hi := (List.getElem?_eq_some_iff.mp e).1
  have l := h.1
  exact ⟨ts[i], List.getElem?_eq_getElem (by omega), h.2 i v _ e (List.getElem?_eq_getElem (by omega))⟩
/-! #### how much tracks grow -/
def tkF (ts : List Tk) (i : Nat) : Bool := match ts[i]? with
  | some t => t.free
  | none => false
def freeL (ts : List Tk) (f m : Nat) : List Nat := ((List.range m).map fun k => f + k).filter (tkF ts)
theorem freeL_nodup (ts : List Tk) (f m : Nat) : (freeL ts f m).Nodup := by
  unfold freeL
  refine List.Pairwise.filter _ ?_
  have := List.nodup_range (n := m)
  exact (List.pairwise_map.mpr (this.imp fun h => by omega))
theorem freeL_mem {ts : List Tk} {f m i : Nat} : i ∈ freeL ts f m ↔ f ≤ i ∧ i < f + m ∧ tkF ts i = true := by
  unfold freeL
  rw [List.mem_filter, List.mem_map]
  constructor
  · rintro ⟨⟨k, hk, rfl⟩, h⟩
    have := List.mem_range.mp hk
    exact ⟨by omega, by omega, h⟩
  · rintro ⟨h1, h2, h3⟩
    exact ⟨⟨i - f, List.mem_range.mpr (by omega), by omega⟩, h3⟩
def partA (lack : Int) (L j : Nat) : Int := lack * ((j : Int) + 1) / (L : Int) - lack * (j : Int) / (L : Int)
def sliceSum (ss : List Int) (f m : Nat) : Int := ((ss.take (f + m)).drop f).sum
/-- what an ask deals to a track -/
def pA (ts : List Tk) (ss : List Int) (f m : Nat) (wanted : Int) (i : Nat) : Int :=
  if i ∈ freeL ts f m ∧ 0 < wanted - sliceSum ss f m then partA (wanted - sliceSum ss f m) (freeL ts f m).length ((freeL ts f m).idxOf i) else 0
theorem partA_nonneg {lack : Int} {L j : Nat} (h : 0 ≤ lack) (hL : 0 < L) : 0 ≤ partA lack L j := by
  unfold partA
  have h1 : lack * (j : Int) ≤ lack * ((j : Int) + 1) := Int.mul_le_mul_of_nonneg_left (by omega) h
  have h2 : lack * (j : Int) / (L : Int) ≤ lack * ((j : Int) + 1) / (L : Int) := Int.ediv_le_ediv (by omega) h1
  omega
theorem pA_nonneg (ts : List Tk) (ss : List Int) (f m : Nat) (wanted : Int) (i : Nat) : 0 ≤ pA ts ss f m wanted i := by
  unfold pA
  split
  · next h => exact partA_nonneg (Int.le_of_lt h.2) (List.length_pos_of_mem h.1)
  · exact Int.le_refl 0
/-- the grown ones, by places -/
def growM (n : Nat) (ts : List Tk) (ss g : List Int) (f m : Nat) (wanted : Int) : List Int := (List.range n).map fun i => max (wAt g i) (pA ts ss f m wanted i)
theorem growM_len {n : Nat} {ts : List Tk} {ss g : List Int} {f m : Nat} {wanted : Int} : (growM n ts ss g f m wanted).length = n := by unfold growM; rw [List.length_map, List.length_range]
theorem growM_at {n : Nat} {ts : List Tk} {ss g : List Int} {f m : Nat} {wanted : Int} {i : Nat} (hi : i < n) : wAt (growM n ts ss g f m wanted) i = max (wAt g i) (pA ts ss f m wanted i) := by
  unfold growM wAt
  rw [List.getD_eq_getElem?_getD, List.getElem?_map, List.getElem?_range hi]; rfl
/-- behind the first p places of the free ones -/
def growP (ts : List Tk) (ss g : List Int) (f m : Nat) (wanted : Int) (p : Nat) (i : Nat) : Int :=
  if i ∈ (freeL ts f m).take p then max (wAt g i) (partA (wanted - sliceSum ss f m) (freeL ts f m).length ((freeL ts f m).idxOf i)) else wAt g i
theorem growP_zero {ts : List Tk} {ss g : List Int} {f m : Nat} {wanted : Int} (i : Nat) : growP ts ss g f m wanted 0 i = wAt g i := by
  unfold growP; simp
theorem growP_end {ts : List Tk} {ss g : List Int} {f m : Nat} {wanted : Int} {i : Nat} (hl : 0 < wanted - sliceSum ss f m) (hg : 0 ≤ wAt g i) : growP ts ss g f m wanted (freeL ts f m).length i = max (wAt g i) (pA ts ss f m wanted i) := by
  unfold growP pA
  rw [List.take_length]
  by_cases h : i ∈ freeL ts f m
  · rw [if_pos h, if_pos ⟨h, hl⟩]
  · rw [if_neg h, if_neg (fun z => h z.1)]; omega
theorem growP_skip {ts : List Tk} {ss g : List Int} {f m : Nat} {wanted : Int} {i : Nat} (hl : ¬ 0 < wanted - sliceSum ss f m) (hg : 0 ≤ wAt g i) : wAt g i = max (wAt g i) (pA ts ss f m wanted i) := by
  unfold pA
  rw [if_neg (fun z => hl z.2)]; omega
theorem take_succ_mem {l : List Nat} {p c i : Nat} (h : l[p]? = some c) : i ∈ l.take (p + 1) ↔ i ∈ l.take p ∨ i = c := by
  rw [List.take_add_one, h]; simp
theorem idxOf_at : ∀ {l : List Nat}, l.Nodup → ∀ {p c : Nat}, l[p]? = some c → l.idxOf c = p
  | [], _, _, _, h => by simp at h
  | x :: l, _, 0, c, h => by
    have : x = c := by simpa using h
    subst this
    rw [List.idxOf_cons_self]
  | x :: l, hn, p + 1, c, h => by
    have h : l[p]? = some c := by simpa using h
    have hne : x ≠ c := fun e => (List.nodup_cons.mp hn).1 (by rw [e]; exact List.mem_of_getElem? h)
    rw [List.idxOf_cons, idxOf_at (List.nodup_cons.mp hn).2 h]
    have e : (x == c) = false := beq_eq_false_iff_ne.mpr hne
    rw [e]; rfl
theorem not_mem_take {l : List Nat} (hn : l.Nodup) {p c : Nat} (h : l[p]? = some c) : c ∉ l.take p := fun hm => by
  obtain ⟨j, hj, e⟩ := List.getElem_of_mem hm
  rw [List.length_take] at hj
  rw [List.getElem_take] at e
  have h1 : l[j]? = some c := by rw [List.getElem?_eq_getElem (by omega), e]
  have := idxOf_at hn h1
  have := idxOf_at hn h
  omega
theorem growP_succ {ts : List Tk} {ss g : List Int} {f m : Nat} {wanted : Int} {p c : Nat} (h : (freeL ts f m)[p]? = some c) (i : Nat) :
    growP ts ss g f m wanted (p + 1) i = if i = c then max (growP ts ss g f m wanted p c) (partA (wanted - sliceSum ss f m) (freeL ts f m).length p) else growP ts ss g f m wanted p i := by
  have hn := freeL_nodup ts f m
  unfold growP
  by_cases hi : i = c
  · subst hi
    rw [if_pos ((take_succ_mem h).mpr (.inr rfl)), if_pos rfl, if_neg (not_mem_take hn h), idxOf_at hn h]
  · rw [if_neg hi]
    by_cases hm : i ∈ (freeL ts f m).take p
    · rw [if_pos ((take_succ_mem h).mpr (.inl hm)), if_pos hm]
    · rw [if_neg (fun z => by rcases (take_succ_mem h).mp z with z | z; exact hm z; exact hi z), if_neg hm]
/-! #### the steps -/
abbrev Ask3 := Nat × Nat × Int
def AskAt (H : Hp) (v : V) (q : Ask3) : Prop := ∃ r, v = .ref r ∧ H r = some (.tup [.int (q.1 : Int), .int (q.2.1 : Int), .int q.2.2])
theorem AskAt.mono {H H' : Hp} {v : V} {q : Ask3} (h : AskAt H v q) (s : Same H H') : AskAt H' v q := let ⟨r, e, g⟩ := h; ⟨r, e, s _ _ g⟩
def AsksAt (H : Hp) (vs : List V) (qs : List Ask3) : Prop := vs.length = qs.length ∧ ∀ (i : Nat) (v : V) (q : Ask3), vs[i]? = some v → qs[i]? = some q → AskAt H v q
theorem AsksAt.mono {H H' : Hp} {vs : List V} {qs : List Ask3} (h : AsksAt H vs qs) (s : Same H H') : AsksAt H' vs qs := ⟨h.1, fun i v t a b => (h.2 i v t a b).mono s⟩
theorem AsksAt.at' {H : Hp} {vs : List V} {qs : List Ask3} (h : AsksAt H vs qs) {i : Nat} {v : V} (e : vs[i]? = some v) : ∃ q, qs[i]? = some q ∧ AskAt H v q := by
  have hi := (List.getElem?_eq_some_iff.mp e).1
  have l := h.1
  exact ⟨qs[i], List.getElem?_eq_getElem (by omega), h.2 i v _ e (List.getElem?_eq_getElem (by omega))⟩
/-- an ask that a grid of n tracks takes -/
def AskOk (n : Nat) (q : Ask3) : Prop := 1 ≤ q.2.1 ∧ q.1 + q.2.1 ≤ n ∧ 0 ≤ q.2.2
def grow1 (n : Nat) (ts : List Tk) (gap : Int) (ss : List Int) (many : Nat) (g : List Int) (q : Ask3) : List Int :=
  if q.2.1 = many then growM n ts ss g q.1 q.2.1 (q.2.2 - gap * ((many : Int) - 1)) else g
def grownM (ts : List Tk) (qs : List Ask3) (gap : Int) (ss : List Int) (many : Nat) : List Int := qs.foldl (grow1 ts.length ts gap ss many) (List.replicate ts.length 0)
def stepM (ts : List Tk) (qs : List Ask3) (gap : Int) (ss : List Int) (many : Nat) : List Int := (List.range ts.length).map fun i => wAt ss i + wAt (grownM ts qs gap ss many) i
def trackM (ts : List Tk) (qs : List Ask3) (gap : Int) : List Int := (List.range ts.length).foldl (fun s k => stepM ts qs gap s (k + 1)) (ts.map Tk.told)
theorem stepM_len {ts : List Tk} {qs : List Ask3} {gap : Int} {ss : List Int} {many : Nat} : (stepM ts qs gap ss many).length = ts.length := by unfold stepM; rw [List.length_map, List.length_range]
theorem stepM_at {ts : List Tk} {qs : List Ask3} {gap : Int} {ss : List Int} {many i : Nat} (hi : i < ts.length) : wAt (stepM ts qs gap ss many) i = wAt ss i + wAt (grownM ts qs gap ss many) i := by
  unfold stepM
  conv => lhs; unfold wAt
  rw [List.getD_eq_getElem?_getD, List.getElem?_map, List.getElem?_range hi]; rfl
def stepsM (ts : List Tk) (qs : List Ask3) (gap : Int) (k : Nat) : List Int := (List.range k).foldl (fun s k => stepM ts qs gap s (k + 1)) (ts.map Tk.told)
theorem stepsM_succ (ts : List Tk) (qs : List Ask3) (gap : Int) (k : Nat) : stepsM ts qs gap (k + 1) = stepM ts qs gap (stepsM ts qs gap k) (k + 1) := by
  unfold stepsM
  rw [List.range_succ, List.foldl_append]; rfl
theorem stepsM_len (ts : List Tk) (qs : List Ask3) (gap : Int) : ∀ k, (stepsM ts qs gap k).length = ts.length
  | 0 => by unfold stepsM; simp
  | k + 1 => by rw [stepsM_succ]; exact stepM_len
theorem grow1_len {n : Nat} {ts : List Tk} {gap : Int} {ss : List Int} {many : Nat} {g : List Int} {q : Ask3} (h : g.length = n) : (grow1 n ts gap ss many g q).length = n := by
  unfold grow1
  split
  · exact growM_len
  · exact h
theorem grown_len {n : Nat} {ts : List Tk} {gap : Int} {ss : List Int} {many : Nat} : ∀ (qs : List Ask3) (g : List Int), g.length = n → (qs.foldl (grow1 n ts gap ss many) g).length = n
  | [], g, h => h
  | q :: qs, g, h => grown_len qs _ (grow1_len h)
/-- the greatest of x and some more -/
def maxF (x : Int) (l : List Int) : Int := l.foldl max x
theorem maxF_ge {x : Int} : ∀ {l : List Int}, x ≤ maxF x l
  | [] => Int.le_refl _
  | y :: l => Int.le_trans (show x ≤ max x y by omega) (maxF_ge (l := l))
theorem maxF_all {y : Int} : ∀ {l : List Int} {x : Int}, y ∈ l → y ≤ maxF x l
  | z :: l, x, h => by
    rcases List.mem_cons.mp h with rfl | h
    · exact Int.le_trans (show y ≤ max x y by omega) (maxF_ge (l := l))
    · exact maxF_all (l := l) h
theorem maxF_mem : ∀ {l : List Int} {x : Int}, maxF x l = x ∨ maxF x l ∈ l
  | [], x => .inl rfl
  | y :: l, x => by
    rcases maxF_mem (l := l) (x := max x y) with h | h
    · by_cases hxy : x ≤ y
      · right; show maxF (max x y) l ∈ y :: l
        rw [h, Int.max_eq_right hxy]; exact List.mem_cons_self ..
      · left; show maxF (max x y) l = x
        rw [h]; omega
    · right; exact List.mem_cons_of_mem _ h
theorem maxF_uniq {x : Int} {l : List Int} {m : Int} (h1 : x ≤ m) (h2 : ∀ y ∈ l, y ≤ m) (h3 : m = x ∨ m ∈ l) : m = maxF x l := by
  have a : maxF x l ≤ m := by
    rcases maxF_mem (l := l) (x := x) with h | h
    · omega
    · exact h2 _ h
  have b : m ≤ maxF x l := by
    rcases h3 with h | h
    · rw [h]; exact maxF_ge
    · exact maxF_all h
  omega
theorem maxF_perm {x : Int} {l l' : List Int} (h : ∀ y, y ∈ l ↔ y ∈ l') : maxF x l = maxF x l' :=
  maxF_uniq maxF_ge (fun y hy => maxF_all ((h y).mpr hy)) (maxF_mem.imp id fun z => (h _).mp z)
/-- what all asks of one many deal to a track -/
def dealsA (ts : List Tk) (qs : List Ask3) (gap : Int) (ss : List Int) (many i : Nat) : List Int := (qs.filter fun q => decide (q.2.1 = many)).map fun q => pA ts ss q.1 q.2.1 (q.2.2 - gap * ((many : Int) - 1)) i
theorem grown_at {n : Nat} {ts : List Tk} {gap : Int} {ss : List Int} {many i : Nat} (hi : i < n) : ∀ (qs : List Ask3) (g : List Int), g.length = n → wAt (qs.foldl (grow1 n ts gap ss many) g) i = maxF (wAt g i) (dealsA ts qs gap ss many i)
  | [], g, h => rfl
  | q :: qs, g, h => by
    show wAt (qs.foldl _ (grow1 n ts gap ss many g q)) i = _
    rw [grown_at hi qs _ (grow1_len h)]
    unfold dealsA
    rw [List.filter_cons]
    by_cases e : q.2.1 = many
    · rw [if_pos (decide_eq_true e), List.map_cons]
      unfold grow1
      rw [if_pos e, growM_at hi]; rfl
    · rw [if_neg (by simpa using e)]
      unfold grow1
      rw [if_neg e]
theorem grownM_at {ts : List Tk} {qs : List Ask3} {gap : Int} {ss : List Int} {many i : Nat} (hi : i < ts.length) : wAt (grownM ts qs gap ss many) i = maxF 0 (dealsA ts qs gap ss many i) := by
  unfold grownM
  rw [grown_at hi _ _ List.length_replicate]
  congr 1
  unfold wAt
  rw [List.getD_eq_getElem?_getD, List.getElem?_replicate, if_pos hi]; rfl
theorem list_ext_wAt {xs ys : List Int} (hl : xs.length = ys.length) (h : ∀ i, i < xs.length → wAt xs i = wAt ys i) : xs = ys := by
  apply List.ext_getElem hl
  intro i h1 h2
  have := h i h1
  unfold wAt at this
  rw [List.getD_eq_getElem?_getD, List.getD_eq_getElem?_getD, List.getElem?_eq_getElem h1, List.getElem?_eq_getElem h2] at this
  exact this
theorem told_at {ts : List Tk} {i : Nat} {t : Tk} (h : ts[i]? = some t) : wAt (ts.map Tk.told) i = t.told := by
  unfold wAt
  rw [List.getD_eq_getElem?_getD, List.getElem?_map, h]; rfl
/-! #### asks of one track -/
theorem freeL_one (ts : List Tk) (f : Nat) : freeL ts f 1 = if tkF ts f = true then [f] else [] := by
  unfold freeL
  show List.filter (tkF ts) [f + 0] = _
  rw [Nat.add_zero, List.filter_cons]; rfl
theorem slice_one {ss : List Int} {f : Nat} (h : f < ss.length) : sliceSum ss f 1 = wAt ss f := by
  unfold sliceSum wAt
  rw [List.getD_eq_getElem?_getD, List.getElem?_eq_getElem h, List.drop_take, Nat.add_sub_cancel_left, List.drop_eq_getElem_cons h]
  simp only [List.take_succ_cons, List.take_zero, List.sum_cons, List.sum_nil, Int.add_zero, Option.getD_some]
/-- with asks of one track alone -/
theorem track_single {ts : List Tk} {qs : List Ask3} {gap : Int} (hq : ∀ q ∈ qs, q.2.1 = 1 ∧ q.1 < ts.length) {i : Nat} {t : Tk} (ht : ts[i]? = some t) :
    wAt (trackM ts qs gap) i = if t.free = true then maxF 0 ((qs.filter fun q => decide (q.1 = i)).map fun q => q.2.2) else t.told := by
  have hi := (List.getElem?_eq_some_iff.mp ht).1
  have hf : tkF ts i = t.free := by unfold tkF; rw [ht]
  have later : ∀ (ss : List Int) (k : Nat), wAt (stepM ts qs gap ss (k + 2)) i = wAt ss i := fun ss k => by
    rw [stepM_at hi, grownM_at hi]
    have : dealsA ts qs gap ss (k + 2) i = [] := by
      unfold dealsA
      rw [List.map_eq_nil_iff, List.filter_eq_nil_iff]
      intro q hq'
      have := (hq q hq').1
      simp; omega
    rw [this]
    show wAt ss i + 0 = _
    omega
  have steps : ∀ k, wAt (stepsM ts qs gap (k + 1)) i = wAt (stepsM ts qs gap 1) i := fun k => by
    induction k with
    | zero => rfl
    | succ k ih => rw [stepsM_succ, later, ih]
  have e : trackM ts qs gap = stepsM ts qs gap ts.length := rfl
  obtain ⟨m, hm⟩ : ∃ m, ts.length = m + 1 := ⟨ts.length - 1, by omega⟩
  rw [e, hm, steps]
  have e1 : stepsM ts qs gap 1 = stepM ts qs gap (ts.map Tk.told) 1 := rfl
  rw [e1, stepM_at hi, grownM_at hi, told_at ht]
  have hpa : ∀ q ∈ qs, pA ts (ts.map Tk.told) q.1 q.2.1 (q.2.2 - gap * (((1 : Nat) : Int) - 1)) i = if q.1 = i ∧ t.free = true ∧ 0 < q.2.2 then q.2.2 else 0 := fun q hq' => by
    obtain ⟨h1, h2⟩ := hq q hq'
    unfold pA
    rw [h1, freeL_one, slice_one (by rw [List.length_map]; exact h2)]
    have e0 : gap * (((1 : Nat) : Int) - 1) = 0 := by simp
    rw [e0]
    by_cases hqi : q.1 = i
    · rw [hqi, hf, told_at ht]
      by_cases hfr : t.free = true
      · have h0 : t.told = 0 := by cases t <;> simp_all [Tk.free, Tk.told]
        rw [h0, if_pos hfr]
        by_cases hs : 0 < q.2.2
        · rw [if_pos ⟨by simp, by omega⟩, if_pos ⟨rfl, hfr, hs⟩]
          unfold partA
          simp
        · rw [if_neg (fun z => hs (by omega)), if_neg (fun z => hs z.2.2)]
      · rw [if_neg hfr, if_neg (by simp), if_neg (fun z => hfr z.2.1)]
    · rw [if_neg (fun z => ?_), if_neg (fun z => hqi z.1)]
      have := z.1
      split at this
      · exact hqi (List.mem_singleton.mp this).symm
      · cases this
  by_cases hfr : t.free = true
  · rw [if_pos hfr]
    have h0 : t.told = 0 := by cases t <;> simp_all [Tk.free, Tk.told]
    rw [h0, Int.zero_add]
    refine (maxF_uniq maxF_ge (fun y hy => ?_) ?_)
    · obtain ⟨q, hq1, rfl⟩ := List.mem_map.mp hy
      obtain ⟨hq2, hq3⟩ := List.mem_filter.mp hq1
      have hq3 := of_decide_eq_true hq3
      by_cases hs : 0 < q.2.2
      · refine maxF_all ?_
        unfold dealsA
        refine List.mem_map.mpr ⟨q, List.mem_filter.mpr ⟨hq2, decide_eq_true (hq q hq2).1⟩, ?_⟩
        rw [hpa q hq2, if_pos ⟨hq3, hfr, hs⟩]
      · exact Int.le_trans (by omega) maxF_ge
    · rcases maxF_mem (x := 0) (l := dealsA ts qs gap (ts.map Tk.told) 1 i) with h | h
      · exact .inl h
      · unfold dealsA at h
        obtain ⟨q, hq1, e2⟩ := List.mem_map.mp h
        obtain ⟨hq2, _⟩ := List.mem_filter.mp hq1
        rw [hpa q hq2] at e2
        by_cases hc : q.1 = i ∧ t.free = true ∧ 0 < q.2.2
        · rw [if_pos hc] at e2
          right
          show maxF 0 (List.map _ _) ∈ _
          rw [← e2]
          exact List.mem_map.mpr ⟨q, List.mem_filter.mpr ⟨hq2, decide_eq_true hc.1⟩, rfl⟩
        · rw [if_neg hc] at e2
          left
          unfold dealsA
          exact e2.symm
  · rw [if_neg hfr]
    have : maxF 0 (dealsA ts qs gap (ts.map Tk.told) 1 i) = 0 := by
      symm
      refine maxF_uniq (Int.le_refl 0) (fun y hy => ?_) (.inl rfl)
      unfold dealsA at hy
      obtain ⟨q, hq1, rfl⟩ := List.mem_map.mp hy
      obtain ⟨hq2, _⟩ := List.mem_filter.mp hq1
      rw [hpa q hq2, if_neg (fun z => hfr z.2.1)]
      exact Int.le_refl 0
    rw [this]; omega
/-! #### as data -/
def tkD : Tk → PyData
  | .cells n => .int n
  | .fit => .str "fit"
  | .share k => .tuple [.str "share", .int k]
def askD (q : Ask3) : PyData := .tuple [.int (q.1 : Int), .int (q.2.1 : Int), .int q.2.2]
section
variable {K : PySem.W.Frag} {H : Hp}
theorem dp_tk {v : V} {t : Tk} (h : TkAt H v t) : Dp K H v (tkD t) := by
  cases t with
  | cells n =>
    have e : v = .int n := h
    subst e; exact .int n
  | fit =>
    have e : v = .str "fit" := h
    subst e; exact .str _
  | share k =>
    obtain ⟨r, rfl, g⟩ := h
    exact .tup (sqT g) (.cons (.str _) (.cons (.int _) .nil))
theorem dpAll_of {α : Type} {f : α → PyData} : ∀ {vs : List V} {xs : List α}, vs.length = xs.length → (∀ (i : Nat) (v : V) (x : α), vs[i]? = some v → xs[i]? = some x → Dp K H v (f x)) → DpAll K H vs (xs.map f)
  | [], [], _, _ => .nil
  | [], _ :: _, h, _ => by cases h
  | _ :: _, [], h, _ => by cases h
  | v :: vs, x :: xs, h, k => .cons (k 0 v x rfl rfl) (dpAll_of (by simpa using h) fun i w y a b => k (i + 1) w y a b)
theorem dp_tks {vs : List V} {ts : List Tk} (h : TksAt H vs ts) : DpAll K H vs (ts.map tkD) := dpAll_of h.1 fun i v t a b => dp_tk (h.2 i v t a b)
theorem dp_ask {v : V} {q : Ask3} (h : AskAt H v q) : Dp K H v (askD q) := by
  obtain ⟨r, rfl, g⟩ := h
  exact .tup (sqT g) (.cons (.int _) (.cons (.int _) (.cons (.int _) .nil)))
theorem dp_asks {vs : List V} {qs : List Ask3} (h : AsksAt H vs qs) : DpAll K H vs (qs.map askD) := dpAll_of h.1 fun i v t a b => dp_ask (h.2 i v t a b)
end
theorem tkD_can (t : Tk) : (tkD t).canLay0 = true ∧ (tkD t).depth ≤ 1 := by cases t <;> simp [tkD, PyData.canLay0, PyData.canLayAll0, PyData.depth, PyData.depthAll] <;> decide +kernel
theorem tkD_nob (t : Tk) : nob (tkD t) = true := by cases t <;> simp [tkD, nob, nobAll]
theorem askD_can (q : Ask3) : (askD q).canLay0 = true ∧ (askD q).depth ≤ 1 := by simp [askD, PyData.canLay0, PyData.canLayAll0, PyData.depth, PyData.depthAll]
theorem askD_nob (q : Ask3) : nob (askD q) = true := by simp [askD, nob, nobAll]
theorem tks_shaped (ts : List Tk) : SeqAt.shaped (.list (ts.map tkD)) = true := shaped_map (m := 1) (by decide) (fun t => (tkD_can t).1) (fun t => (tkD_can t).2) ts
theorem asks_shaped (qs : List Ask3) : SeqAt.shaped (.list (qs.map askD)) = true := shaped_map (m := 1) (by decide) (fun t => (askD_can t).1) (fun t => (askD_can t).2) qs
/-- a thing's kind -/
def Tk.ty : Tk → String
  | .cells _ => "int"
  | .fit => "str"
  | .share _ => "tuple"
theorem TkAt.t7 {H : Hp} {v : V} {t : Tk} (h : TkAt H v t) : Ty7 H v t.ty := by
  cases t with
  | cells n =>
    have e : v = .int n := h
    subst e; exact .int n
  | fit =>
    have e : v = .str "fit" := h
    subst e; exact .str _
  | share k =>
    obtain ⟨r, rfl, g⟩ := h
    exact .tup g
theorem TkAt.isI {H : Hp} {v : V} {t : Tk} (h : TkAt H v t) : isI v = !t.free := by
  cases t with
  | cells n =>
    have e : v = .int n := h
    subst e; rfl
  | fit =>
    have e : v = .str "fit" := h
    subst e; rfl
  | share k =>
    obtain ⟨r, rfl, g⟩ := h
    rfl
theorem free_nats {ts : List Tk} {f m : Nat} : ((List.range m).filter fun i => tkF ts (f + i)).map (fun i : Nat => V.int ((f : Int) + (i : Int))) = natsV (freeL ts f m) := by
  unfold freeL natsV
  rw [List.filter_map, List.map_map]
  refine List.map_congr_left fun i _ => ?_
  show _ = V.int ((f + i : Nat) : Int)
  rw [Int.natCast_add]
theorem cut_ints (ss : List Int) (f m : Nat) : cutV (ss.map V.int) (some (f : Int)) (some ((f : Int) + (m : Int))) = ((ss.take (f + m)).drop f).map V.int := by
  rw [← Int.natCast_add, cutV_mid _ _ _ (by omega), ← List.map_take, ← List.map_drop]
theorem growM_skip {n : Nat} {ts : List Tk} {ss g : List Int} {f m : Nat} {wanted : Int} (hl : ¬ 0 < wanted - sliceSum ss f m) (hg : ∀ z ∈ g, 0 ≤ z) (lg : g.length = n) : growM n ts ss g f m wanted = g := by
  refine list_ext_wAt (by rw [growM_len, lg]) fun i hi => ?_
  rw [growM_len] at hi
  rw [growM_at hi]
  exact (growP_skip hl (hg _ (wAt_mem (by omega)))).symm
abbrev growL (n : Nat) (ts : List Tk) (ss g : List Int) (f m : Nat) (wanted : Int) (p : Nat) : List Int := (List.range n).map (growP ts ss g f m wanted p)
theorem growL_zero {n : Nat} {ts : List Tk} {ss g : List Int} {f m : Nat} {wanted : Int} (lg : g.length = n) : growL n ts ss g f m wanted 0 = g := by
  refine list_ext_wAt (by rw [List.length_map, List.length_range, lg]) fun i hi => ?_
  rw [List.length_map, List.length_range] at hi
  unfold wAt
  rw [List.getD_eq_getElem?_getD, List.getElem?_map, range_get hi]
  show growP ts ss g f m wanted 0 i = _
  rw [growP_zero]; rfl
theorem growL_end {n : Nat} {ts : List Tk} {ss g : List Int} {f m : Nat} {wanted : Int} (hl : 0 < wanted - sliceSum ss f m) (hg : ∀ z ∈ g, 0 ≤ z) (lg : g.length = n) : growL n ts ss g f m wanted (freeL ts f m).length = growM n ts ss g f m wanted := by
  unfold growL growM
  refine List.map_congr_left fun i hi => ?_
  have hi := List.mem_range.mp hi
  exact growP_end hl (hg _ (wAt_mem (by omega)))
theorem growL_at {n : Nat} {ts : List Tk} {ss g : List Int} {f m : Nat} {wanted : Int} {p c : Nat} (hc : c < n) : ((growL n ts ss g f m wanted p).map V.int)[c]? = some (.int (growP ts ss g f m wanted p c)) := by
  rw [List.getElem?_map, List.getElem?_map, range_get hc]; rfl
theorem growL_set {n : Nat} {ts : List Tk} {ss g : List Int} {f m : Nat} {wanted : Int} {p c : Nat} (h : (freeL ts f m)[p]? = some c) :
    ((growL n ts ss g f m wanted p).map V.int).set c (.int (max (growP ts ss g f m wanted p c) (partA (wanted - sliceSum ss f m) (freeL ts f m).length p))) = (growL n ts ss g f m wanted (p + 1)).map V.int := by
  apply List.ext_getElem?
  intro i
  rw [List.getElem?_set, List.getElem?_map, List.getElem?_map, List.getElem?_map, List.getElem?_map]
  by_cases hi : i < n
  · rw [range_get hi]
    by_cases hci : c = i
    · subst hci
      rw [if_pos rfl, if_pos (by rw [List.length_map, List.length_map, List.length_range]; exact hi)]
      show _ = some (V.int (growP ts ss g f m wanted (p + 1) c))
      rw [growP_succ h, if_pos rfl]
    · rw [if_neg hci]
      show some (V.int (growP ts ss g f m wanted p i)) = some (V.int (growP ts ss g f m wanted (p + 1) i))
      rw [growP_succ h, if_neg (fun e => hci e.symm)]
  · rw [List.getElem?_eq_none (by rw [List.length_range]; omega)]
    by_cases hci : c = i
    · subst hci
      rw [if_pos rfl, if_neg (by rw [List.length_map, List.length_map, List.length_range]; exact hi)]; rfl
    · rw [if_neg hci]; rfl
theorem AskAt.but {H H' : Hp} {v : V} {q : Ask3} {a : Addr} {xs : List V} (h : AskAt H v q) (g : H a = some (.lst xs)) (b : But a H H') : AskAt H' v q := let ⟨r, e, g2⟩ := h; ⟨r, e, b.app (fun z => by rw [z, g] at g2; cases g2) g2⟩
theorem grow1_nonneg {n : Nat} {ts : List Tk} {gap : Int} {ss : List Int} {many : Nat} {g : List Int} {q : Ask3} (h : ∀ z ∈ g, 0 ≤ z) : ∀ z ∈ grow1 n ts gap ss many g q, 0 ≤ z := fun z hz => by
  unfold grow1 at hz
  split at hz
  · unfold growM at hz
    obtain ⟨i, _, rfl⟩ := List.mem_map.mp hz
    have := pA_nonneg ts ss q.1 q.2.1 (q.2.2 - gap * ((many : Int) - 1)) i
    omega
  · exact h z hz
theorem grown_nonneg {n : Nat} {ts : List Tk} {gap : Int} {ss : List Int} {many : Nat} : ∀ (qs : List Ask3) (g : List Int), (∀ z ∈ g, 0 ≤ z) → ∀ z ∈ qs.foldl (grow1 n ts gap ss many) g, 0 ≤ z
  | [], g, h => h
  | q :: qs, g, h => grown_nonneg qs _ (grow1_nonneg h)
theorem foldl_take {α β : Type} {f : β → α → β} {l : List α} {x : β} {i : Nat} {a : α} (h : l[i]? = some a) : (l.take (i + 1)).foldl f x = f ((l.take i).foldl f x) a := by
  rw [List.take_add_one, h, List.foldl_append]; rfl
theorem stepM_V {ts : List Tk} {qs : List Ask3} {gap : Int} {ss : List Int} {many : Nat} : (List.range ts.length).map (fun i => V.int (wAt ss i + wAt (grownM ts qs gap ss many) i)) = (stepM ts qs gap ss many).map V.int := by
  unfold stepM
  rw [List.map_map]; rfl
theorem AsksAt.but {H H' : Hp} {vs : List V} {qs : List Ask3} {a : Addr} {xs : List V} (h : AsksAt H vs qs) (g : H a = some (.lst xs)) (b : But a H H') : AsksAt H' vs qs := ⟨h.1, fun i v q x y => (h.2 i v q x y).but g b⟩
theorem TksAt.dr {H H' : Hp} {vs : List V} {ts : List Tk} {a : Addr} (h : TksAt H vs ts) (hs : Src H a) (d : Dr a H H') : TksAt H' vs ts := let ⟨_, e⟩ := hs; h.but e d.b
theorem AsksAt.dr {H H' : Hp} {vs : List V} {qs : List Ask3} {a : Addr} (h : AsksAt H vs qs) (hs : Src H a) (d : Dr a H H') : AsksAt H' vs qs := let ⟨_, e⟩ := hs; h.but e d.b
theorem TkAt.dr {H H' : Hp} {v : V} {t : Tk} {a : Addr} (h : TkAt H v t) (hs : Src H a) (d : Dr a H H') : TkAt H' v t := let ⟨_, e⟩ := hs; h.but e d.b
theorem AsksAt.snoc {H : Hp} {vs : List V} {qs : List Ask3} {v : V} {q : Ask3} (h : AsksAt H vs qs) (hv : AskAt H v q) : AsksAt H (vs ++ [v]) (qs ++ [q]) := by
  have l := h.1
  refine ⟨by simp [l], fun i x y hx hy => ?_⟩
  by_cases hi : i < vs.length
  · rw [List.getElem?_append_left hi] at hx
    rw [List.getElem?_append_left (by omega)] at hy
    exact h.2 i x y hx hy
  · have : i = vs.length := by
      have := (List.getElem?_eq_some_iff.mp hx).1
      simp at this; omega
    subst this
    rw [List.getElem?_concat_length] at hx
    rw [l, List.getElem?_concat_length] at hy
    cases hx; cases hy; exact hv
theorem both_shaped (ts : List Tk) (qs : List Ask3) : SeqAt.shaped (.list [.list (ts.map tkD), .list (qs.map askD)]) = true := by
  unfold SeqAt.shaped
  have c1 := canLayAll0_map (g := tkD) (fun x => (tkD_can x).1) ts
  have c2 := canLayAll0_map (g := askD) (fun x => (askD_can x).1) qs
  have d1 := depthAll_map (g := tkD) (m := 1) (fun x => (tkD_can x).2) ts
  have d2 := depthAll_map (g := askD) (m := 1) (fun x => (askD_can x).2) qs
  rw [Bool.and_eq_true]
  refine ⟨by simp only [PyData.canLay0, PyData.canLayAll0, c1, c2, Bool.and_self], decide_eq_true ?_⟩
  simp only [PyData.depth, PyData.depthAll]; omega
theorem both_same (ts : List Tk) (qs : List Ask3) : PyData.eqv (.list [.list (ts.map tkD), .list (qs.map askD)]) (.list [.list (ts.map tkD), .list (qs.map askD)]) = true := by
  have n : nob (.list [.list (ts.map tkD), .list (qs.map askD)]) = true := by
    have h1 := nobAll_map (g := tkD) tkD_nob ts
    have h2 := nobAll_map (g := askD) askD_nob qs
    simp only [nob, nobAll, h1, h2, Bool.and_self]
  exact (eqv_iff n n).mpr rfl
end My

/-! ### tracks: asks reached, asks in another order: plain mathematics -/
namespace My
open PySem L2
theorem trackM_rev (ts : List Tk) (qs : List Ask3) (gap : Int) : trackM ts qs.reverse gap = trackM ts qs gap := by
  have h : ∀ ss many, stepM ts qs.reverse gap ss many = stepM ts qs gap ss many := fun ss many => by
    unfold stepM
    refine List.map_congr_left fun i hi => ?_
    have hi := List.mem_range.mp hi
    rw [grownM_at hi, grownM_at hi]
    congr 1
    refine maxF_perm fun y => ?_
    unfold dealsA
    rw [List.filter_reverse, List.map_reverse, List.mem_reverse]
  unfold trackM
  have e : (fun s k => stepM ts qs.reverse gap s (k + 1)) = (fun s k => stepM ts qs gap s (k + 1)) := by
    funext s k
    exact h s (k + 1)
  rw [e]
abbrev seg (f m : Nat) : List Nat := (List.range m).map fun k => f + k
theorem seg_mem {f m i : Nat} : i ∈ seg f m ↔ f ≤ i ∧ i < f + m := by
  rw [List.mem_map]
  constructor
  · rintro ⟨k, hk, rfl⟩
    have := List.mem_range.mp hk
    omega
  · intro h
    exact ⟨i - f, List.mem_range.mpr (by omega), by omega⟩
theorem slice_S {ss : List Int} {f : Nat} : ∀ {m : Nat}, f + m ≤ ss.length → sliceSum ss f m = S (wAt ss) (seg f m) := by
  intro m
  induction m with
  | zero => intro _; unfold sliceSum; simp [S]
  | succ m ih =>
    intro h
    have h2 := ih (by omega)
    have e1 : seg f (m + 1) = seg f m ++ [f + m] := by unfold seg; rw [List.range_succ, List.map_append]; rfl
    rw [e1, S_append, ← h2]
    unfold sliceSum
    have e2 : (ss.take (f + (m + 1))) = ss.take (f + m) ++ [wAt ss (f + m)] := by
      rw [← Nat.add_assoc, List.take_add_one, List.getElem?_eq_getElem (by omega : f + m < ss.length)]
      congr 1
      unfold wAt
      rw [List.getD_eq_getElem?_getD, List.getElem?_eq_getElem (by omega : f + m < ss.length)]; rfl
    rw [e2, List.drop_append_of_le_length (by rw [List.length_take]; omega), List.sum_append]
    rfl
theorem parts_all (lack : Int) {L : Nat} (hL : 0 < L) : S (fun j => partA lack L j) (List.range L) = lack := by
  have key : ∀ n, S (fun j => partA lack L j) (List.range n) = lack * (n : Int) / (L : Int) := by
    intro n
    induction n with
    | zero => simp [S]
    | succ n ih =>
      rw [List.range_succ, S_append, ih, S_cons, S_nil]
      unfold partA
      have : ((n + 1 : Nat) : Int) = (n : Int) + 1 := by omega
      rw [this]; omega
  rw [key, Int.mul_ediv_cancel _ (by omega)]
theorem pA_sum {ts : List Tk} {ss : List Int} {f m : Nat} {wanted : Int} (hl : 0 < wanted - sliceSum ss f m) (hne : freeL ts f m ≠ []) : S (pA ts ss f m wanted) (seg f m) = wanted - sliceSum ss f m := by
  have hL : 0 < (freeL ts f m).length := List.length_pos_iff.mpr hne
  rw [S_split _ (tkF ts)]
  have e0 : S (pA ts ss f m wanted) ((seg f m).filter fun i => !tkF ts i) = 0 := by
    have : S (pA ts ss f m wanted) ((seg f m).filter fun i => !tkF ts i) = S (fun _ => 0 * 0) ((seg f m).filter fun i => !tkF ts i) := S_congr fun i hi => by
      have h := (List.mem_filter.mp hi).2
      unfold pA
      rw [if_neg (fun z => ?_)]; rfl
      have := (freeL_mem.mp z.1).2.2
      rw [this] at h; cases h
    rw [this, S_mul, Int.zero_mul]
  have e1 : S (pA ts ss f m wanted) ((seg f m).filter (tkF ts)) = S (fun j => partA (wanted - sliceSum ss f m) (freeL ts f m).length j) (List.range (freeL ts f m).length) := by
    show ((freeL ts f m).map _).sum = _
    unfold S
    congr 1
    apply List.ext_getElem?
    intro j
    rw [List.getElem?_map, List.getElem?_map]
    by_cases hj : j < (freeL ts f m).length
    · rw [List.getElem?_eq_getElem hj, range_get hj]
      show some (pA ts ss f m wanted (freeL ts f m)[j]) = some _
      unfold pA
      rw [if_pos ⟨List.getElem_mem _, hl⟩, idxOf_at (freeL_nodup ts f m) (List.getElem?_eq_getElem hj)]
    · rw [List.getElem?_eq_none (by omega), List.getElem?_eq_none (by rw [List.length_range]; omega)]; rfl
  rw [e0, e1, parts_all _ hL]; omega
theorem step_ge {ts : List Tk} {qs : List Ask3} {gap : Int} {k i : Nat} (hi : i < ts.length) : wAt (stepsM ts qs gap k) i ≤ wAt (stepsM ts qs gap (k + 1)) i := by
  rw [stepsM_succ, stepM_at hi, grownM_at hi]
  have : 0 ≤ maxF 0 (dealsA ts qs gap (stepsM ts qs gap k) (k + 1) i) := maxF_ge
  omega
theorem steps_ge {ts : List Tk} {qs : List Ask3} {gap : Int} {i : Nat} (hi : i < ts.length) : ∀ (d k : Nat), wAt (stepsM ts qs gap k) i ≤ wAt (stepsM ts qs gap (k + d)) i
  | 0, _ => Int.le_refl _
  | d + 1, k => Int.le_trans (steps_ge hi d k) (step_ge hi)
/-- each ask that has a track that isn't of so many cells has its size at least -/
theorem ask_reached {ts : List Tk} {qs : List Ask3} {gap : Int} {q : Ask3} (hq : q ∈ qs) (ok : AskOk ts.length q) (hne : freeL ts q.1 q.2.1 ≠ []) : q.2.2 ≤ sliceSum (trackM ts qs gap) q.1 q.2.1 + gap * ((q.2.1 : Int) - 1) := by
  obtain ⟨o1, o2, o3⟩ := ok
  obtain ⟨f, m, size⟩ := q
  have o1 : 1 ≤ m := o1
  obtain ⟨k, rfl⟩ : ∃ k, m = k + 1 := ⟨m - 1, by omega⟩
  have o1 : 1 ≤ k + 1 := o1
  have o2 : f + (k + 1) ≤ ts.length := o2
  show size ≤ sliceSum (trackM ts qs gap) f (k + 1) + gap * (((k + 1 : Nat) : Int) - 1)
  have hne : freeL ts f (k + 1) ≠ [] := hne
  have e : trackM ts qs gap = stepsM ts qs gap ((k + 1) + (ts.length - (k + 1))) := by
    rw [show (k + 1) + (ts.length - (k + 1)) = ts.length by omega]; rfl
  have l1 : ∀ j, (stepsM ts qs gap j).length = ts.length := stepsM_len ts qs gap
  rw [e, slice_S (by rw [l1]; exact o2)]
  have h1 : S (wAt (stepsM ts qs gap (k + 1))) (seg f (k + 1)) ≤ S (wAt (stepsM ts qs gap ((k + 1) + (ts.length - (k + 1))))) (seg f (k + 1)) := S_le fun i hi => by
    have := seg_mem.mp hi
    exact steps_ge (by omega) _ _
  obtain ⟨wd, hwd⟩ : ∃ wd, wd = size - gap * (((k + 1 : Nat) : Int) - 1) := ⟨_, rfl⟩
  have h2 : S (wAt (stepsM ts qs gap k)) (seg f (k + 1)) + S (pA ts (stepsM ts qs gap k) f (k + 1) wd) (seg f (k + 1)) ≤ S (wAt (stepsM ts qs gap (k + 1))) (seg f (k + 1)) := by
    have : S (fun i => wAt (stepsM ts qs gap k) i + pA ts (stepsM ts qs gap k) f (k + 1) wd i) (seg f (k + 1)) = S (wAt (stepsM ts qs gap k)) (seg f (k + 1)) + S (pA ts (stepsM ts qs gap k) f (k + 1) wd) (seg f (k + 1)) := by
      have add : ∀ R : List Nat, S (fun i => wAt (stepsM ts qs gap k) i + pA ts (stepsM ts qs gap k) f (k + 1) wd i) R = S (wAt (stepsM ts qs gap k)) R + S (pA ts (stepsM ts qs gap k) f (k + 1) wd) R := fun R => by
        induction R with
        | nil => rfl
        | cons i R ih => rw [S_cons, S_cons, S_cons, ih]; omega
      exact add _
    rw [← this]
    refine S_le fun i hi => ?_
    have hi := seg_mem.mp hi
    rw [stepsM_succ, stepM_at (by omega), grownM_at (by omega)]
    have : pA ts (stepsM ts qs gap k) f (k + 1) wd i ≤ maxF 0 (dealsA ts qs gap (stepsM ts qs gap k) (k + 1) i) := by
      refine maxF_all ?_
      unfold dealsA
      refine List.mem_map.mpr ⟨(f, k + 1, size), List.mem_filter.mpr ⟨hq, decide_eq_true rfl⟩, ?_⟩
      rw [hwd]
    omega
  have h3 : sliceSum (stepsM ts qs gap k) f (k + 1) = S (wAt (stepsM ts qs gap k)) (seg f (k + 1)) := slice_S (by rw [l1]; exact o2)
  by_cases hl : 0 < wd - sliceSum (stepsM ts qs gap k) f (k + 1)
  · rw [pA_sum hl hne] at h2
    omega
  · have h4 : 0 ≤ S (pA ts (stepsM ts qs gap k) f (k + 1) wd) (seg f (k + 1)) := S_nonneg fun i _ => pA_nonneg ..
    omega
theorem AsksAt.rev {H : Hp} {vs : List V} {qs : List Ask3} (h : AsksAt H vs qs) : AsksAt H vs.reverse qs.reverse := by
  have l := h.1
  refine ⟨by rw [List.length_reverse, List.length_reverse, l], fun i v q hv hq => ?_⟩
  have hi := (List.getElem?_eq_some_iff.mp hv).1
  rw [List.length_reverse] at hi
  rw [List.getElem?_reverse hi] at hv
  rw [List.getElem?_reverse (by omega), ← l] at hq
  exact h.2 _ v q hv hq
theorem natI_ne {l : List Nat} : (!decide (natI l = [])) = !decide (l = []) := by
  rw [decide_eq_decide.mpr natI_nil]
end My

/-! ### boxes and trees of boxes as they stand -/
namespace My
open PySem PySem.Spec PyProof.Rows L2
inductive Kd | words | picture | row | pile | grid
  deriving DecidableEq
/-- what a box has of its own -/
inductive Own
  | words (t : List Nat)
  | picture (a d : Int)
  | row (turn : Bool) (gap lane : Int) (pack stands : String)
  | pile (gap : Int) (pack stands : String)
  | grid (sp : List (Int × Int × Int × Int)) (cs rs : List Tk) (gap lane : Int) (stands : String)
def Own.kd : Own → Kd
  | .words _ => .words
  | .picture _ _ => .picture
  | .row .. => .row
  | .pile .. => .pile
  | .grid .. => .grid
/-- a tree: the box at x, its name, its style's values, its own, the boxes in it -/
inductive At
  | mk (x : Addr) (nm : List Nat) (st : List V) (o : Own) (kids : List At)
def At.x : At → Addr | .mk x _ _ _ _ => x
def At.nm : At → List Nat | .mk _ n _ _ _ => n
def At.st : At → List V | .mk _ _ s _ _ => s
def At.own : At → Own | .mk _ _ _ o _ => o
def At.kids : At → List At | .mk _ _ _ _ ks => ks
def refs (ks : List At) : List V := ks.map fun k => .ref k.x
/-- four numbers in a tuple -/
def SpAt (H : Hp) (v : V) (q : Int × Int × Int × Int) : Prop := ∃ p, v = .ref p ∧ H p = some (.tup [.int q.1, .int q.2.1, .int q.2.2.1, .int q.2.2.2])
def SpsAt (H : Hp) (vs : List V) (qs : List (Int × Int × Int × Int)) : Prop := vs.length = qs.length ∧ ∀ (i : Nat) (v : V) (q : Int × Int × Int × Int), vs[i]? = some v → qs[i]? = some q → SpAt H v q
inductive BoxAt (bc : Kd → Addr) (S : Addr) (K : PySem.W.Frag) (H : Hp) : At → Prop
  | words {x dx y dy : Addr} {nm t : List Nat} {st : List V} (hx : H x = some (.ins (bc .words) dx [("name", .str (sO nm)), ("text", .str (sO t)), ("style", .ref y)])) (hy : H y = some (.ins S dy (styL st))) (ok : OkL K H st) (hn : NameOk nm) (ht : t.length ≤ 10000) : BoxAt bc S K H (.mk x nm st (.words t) [])
  | picture {x dx y dy : Addr} {nm : List Nat} {a d : Int} {st : List V} (hx : H x = some (.ins (bc .picture) dx [("name", .str (sO nm)), ("across", .int a), ("down", .int d), ("style", .ref y)])) (hy : H y = some (.ins S dy (styL st))) (ok : OkL K H st) (hn : NameOk nm) (ha : 1 ≤ a) (hd : 1 ≤ d) : BoxAt bc S K H (.mk x nm st (.picture a d) [])
  | row {x dx y dy b : Addr} {nm : List Nat} {turn : Bool} {gap lane : Int} {pack stands : String} {st : List V} {kids : List At} (hx : H x = some (.ins (bc .row) dx [("name", .str (sO nm)), ("boxes", .ref b), ("turn", .bl turn), ("gap", .int gap), ("lane", .int lane), ("pack", sX pack), ("stands", sX stands), ("style", .ref y)]))
      (hy : H y = some (.ins S dy (styL st))) (ok : OkL K H st) (hn : NameOk nm) (g0 : 0 ≤ gap) (l0 : 0 ≤ lane) (hb : H b = some (.tup (refs kids))) (lk : kids.length ≤ 1000) (hk : ∀ k ∈ kids, BoxAt bc S K H k) : BoxAt bc S K H (.mk x nm st (.row turn gap lane pack stands) kids)
  | pile {x dx y dy b : Addr} {nm : List Nat} {gap : Int} {pack stands : String} {st : List V} {kids : List At} (hx : H x = some (.ins (bc .pile) dx [("name", .str (sO nm)), ("boxes", .ref b), ("gap", .int gap), ("pack", sX pack), ("stands", sX stands), ("style", .ref y)]))
      (hy : H y = some (.ins S dy (styL st))) (ok : OkL K H st) (hn : NameOk nm) (g0 : 0 ≤ gap) (hb : H b = some (.tup (refs kids))) (lk : kids.length ≤ 1000) (hk : ∀ k ∈ kids, BoxAt bc S K H k) : BoxAt bc S K H (.mk x nm st (.pile gap pack stands) kids)
  | grid {x dx y dy b pc pr ps : Addr} {nm : List Nat} {sp : List (Int × Int × Int × Int)} {cs rs : List Tk} {gap lane : Int} {stands : String} {st us vs ws : List V} {kids : List At} (hx : H x = some (.ins (bc .grid) dx [("name", .str (sO nm)), ("boxes", .ref b), ("columns", .ref pc), ("rows", .ref pr), ("spots", .ref ps), ("gap", .int gap), ("lane", .int lane), ("stands", sX stands), ("style", .ref y)]))
      (hy : H y = some (.ins S dy (styL st))) (ok : OkL K H st) (hn : NameOk nm) (g0 : 0 ≤ gap) (l0 : 0 ≤ lane) (hb : H b = some (.tup (refs kids))) (lk : kids.length ≤ 1000) (hk : ∀ k ∈ kids, BoxAt bc S K H k)
      (hc : H pc = some (.tup us)) (tc : TksAt H us cs) (oc : ∀ t ∈ cs, t.ok) (nc : cs ≠ []) (hr : H pr = some (.tup vs)) (tr : TksAt H vs rs) (or : ∀ t ∈ rs, t.ok) (nr : rs ≠ []) (hs : H ps = some (.tup ws)) (ts : SpsAt H ws sp) (lsp : sp.length = kids.length) (lcs : cs.length ≤ 1000) (lrs : rs.length ≤ 1000) : BoxAt bc S K H (.mk x nm st (.grid sp cs rs gap lane stands) kids)
/-- what is no list and no dict -/
def Still : HO → Prop
  | .lst _ => False
  | .dK _ => False
  | .dT _ => False
  | .ins _ _ [] => False
  | .tbl _ => False
  | .frz _ (.ext _) => False
  | _ => True
/-- all but lists, dicts and bare instances stay -/
def KeepS (H H' : Hp) : Prop := ∀ (a : Addr) (o : HO), H a = some o → Still o → H' a = some o
section
variable {K : PySem.W.Frag} {H H1 H2 H' : Hp} {bc : Kd → Addr} {S : Addr}
theorem Same.ks (s : Same H H') : KeepS H H' := fun a o h _ => s a o h
theorem KeepS.refl : KeepS H H := fun a o h _ => h
theorem KeepS.trans (p : KeepS H H1) (q : KeepS H1 H2) : KeepS H H2 := fun a o h s => q a o (p a o h s) s
theorem KeepS.butL {l : Addr} {xs : List V} (p : KeepS H H1) (b : But l H1 H2) (h : H1 l = some (.lst xs)) : KeepS H H2 := fun a o e s => b a o (by rintro rfl; rw [p _ _ e s] at h; cases h; exact s) (p a o e s)
theorem KeepS.butT {l : Addr} {xs : List (List Key × V)} (p : KeepS H H1) (b : But l H1 H2) (h : H1 l = some (.dT xs)) : KeepS H H2 := fun a o e s => b a o (by rintro rfl; rw [p _ _ e s] at h; cases h; exact s) (p a o e s)
theorem KeepS.butK {l : Addr} {xs : List (Key × V)} (p : KeepS H H1) (b : But l H1 H2) (h : H1 l = some (.dK xs)) : KeepS H H2 := fun a o e s => b a o (by rintro rfl; rw [p _ _ e s] at h; cases h; exact s) (p a o e s)
theorem KeepS.new {l : Addr} (p : KeepS H H1) (b : But l H1 H2) (h : H l = none) : KeepS H H2 := fun a o e s => b a o (ne_of_none e h) (p a o e s)
theorem KeepS.same (p : KeepS H H1) (s : Same H1 H2) : KeepS H H2 := p.trans (Same.ks s)
theorem Dr.ks {s : Addr} (d : Dr s H H') (hs : Src H s) : KeepS H H' := let ⟨_, e⟩ := hs; KeepS.refl.butL d.b e
theorem KeepS.tup {a : Addr} {xs : List V} (p : KeepS H H') (h : H a = some (.tup xs)) : H' a = some (.tup xs) := p _ _ h True.intro
theorem KeepS.ins {a C d : Addr} {f : Str × V} {fs : List (Str × V)} (p : KeepS H H') (h : H a = some (.ins C d (f :: fs))) : H' a = some (.ins C d (f :: fs)) := p _ _ h True.intro
theorem KeepS.butE {x C d : Addr} (b : But x H H') (h : H x = some (.ins C d [])) : KeepS H H' := fun a o e s => b a o (by rintro rfl; rw [h] at e; cases e; exact s) e
theorem KeepS.butX {x C d : Addr} (p : KeepS H H1) (b : But x H1 H2) (h : H x = some (.ins C d [])) : KeepS H H2 := fun a o e s => b a o (by rintro rfl; rw [h] at e; cases e; exact s) (p a o e s)
theorem KeepS.sty {a C d : Addr} {st : List V} (p : KeepS H H') (ok : st.length = 10) (h : H a = some (.ins C d (styL st))) : H' a = some (.ins C d (styL st)) := by
  obtain ⟨w, h', lw, lh, mw, mh, g, s, r, q, rfl⟩ := ten ok
  exact p.ins h
theorem KeepS.sqT {a : Addr} {xs : List V} (p : KeepS H H') (h : SqT K H a xs) : SqT K H' a xs := by
  rcases h with (h | ⟨o, h⟩) | h
  · exact .inl (.inl (p.tup h))
  · exact .inl (.inr ⟨o, p _ _ h True.intro⟩)
  · exact .inr h
theorem KeepS.szAt {v : V} (p : KeepS H H') (h : SzAt H v) : SzAt H' v := by
  cases h with
  | non => exact .non
  | cells n => exact .cells n
  | part a n h => exact .part a n (p.tup h)
  | tie a l sd m hl hs h => exact .tie a l sd m hl hs (p.tup h)
theorem KeepS.okF {i : Nat} {v : V} (p : KeepS H H') (h : OkF K H i v) : OkF K H' i v :=
  match i, h with
  | 0, h => p.szAt h
  | 1, h => p.szAt h
  | 2, h => h
  | 3, h => h
  | 4, h => h
  | 5, h => h
  | 6, h => h
  | 7, h => h
  | 8, h => let ⟨a, n0, n1, n2, n3, e, g⟩ := h; ⟨a, n0, n1, n2, n3, e, p.sqT g⟩
  | _ + 9, h => h
theorem KeepS.okL {fs : List V} (p : KeepS H H') (h : OkL K H fs) : OkL K H' fs := ⟨h.1, fun i v e => p.okF (h.2 i v e)⟩
theorem KeepS.tks {us : List V} {ts : List Tk} (p : KeepS H H') (h : TksAt H us ts) : TksAt H' us ts := ⟨h.1, fun i v t a b => by
  have q := h.2 i v t a b
  cases t with
  | cells n => exact q
  | fit => exact q
  | share k => obtain ⟨r, e, g⟩ := q; exact ⟨r, e, p.tup g⟩⟩
theorem KeepS.sps {us : List V} {qs : List (Int × Int × Int × Int)} (p : KeepS H H') (h : SpsAt H us qs) : SpsAt H' us qs := ⟨h.1, fun i v q e1 e2 => let ⟨r, e, g⟩ := h.2 i v q e1 e2; ⟨r, e, p.tup g⟩⟩
theorem BoxAt.ks {t : At} (h : BoxAt bc S K H t) (p : KeepS H H') : BoxAt bc S K H' t := by
  induction h with
  | words hx hy ok hn ht => exact .words (p.ins hx) (p.sty ok.1 hy) (p.okL ok) hn ht
  | picture hx hy ok hn ha hd => exact .picture (p.ins hx) (p.sty ok.1 hy) (p.okL ok) hn ha hd
  | row hx hy ok hn g0 l0 hb lk hk ih => exact .row (p.ins hx) (p.sty ok.1 hy) (p.okL ok) hn g0 l0 (p.tup hb) lk ih
  | pile hx hy ok hn g0 hb lk hk ih => exact .pile (p.ins hx) (p.sty ok.1 hy) (p.okL ok) hn g0 (p.tup hb) lk ih
  | grid hx hy ok hn g0 l0 hb lk hk hc tc oc nc hr tr or nr hs ts lsp lcs lrs ih => exact .grid (p.ins hx) (p.sty ok.1 hy) (p.okL ok) hn g0 l0 (p.tup hb) lk ih (p.tup hc) (p.tks tc) oc nc (p.tup hr) (p.tks tr) or nr (p.tup hs) (p.sps ts) lsp lcs lrs
end
/-! #### what isinstance asks of the five classes -/
structure KdF (K : PySem.W.Frag) (bc : Kd → Addr) (B : Addr) : Prop where
  cl : ∀ k, Cls K (bc k)
  wc : ∀ k, PySem.W.findIn K (.ref (bc k)) "__class__" = some (some (.builtin "object.__class__"))
  wg : PySem.W.specialIn K (.builtin "object.__class__") "__get__" = some (some (.builtin "getset_descriptor.__get__"))
  wt : PySem.W.takesIn K (.builtin "object.__class__") = some true
  wm : ∀ k, PySem.W.mroIn K (bc k) (.type "object") = some true
  is_ : ∀ k j, PySem.W.kitOne K (.ref (bc k)) (.ref (bc j)) = some (decide (k = j))
  box : ∀ k, PySem.W.kitOne K (.ref (bc k)) (.ref B) = some true
  nm : ∀ k, PySem.W.findIn K (.ref (bc k)) "name" = some none
  sy : ∀ k, PySem.W.findIn K (.ref (bc k)) "style" = some none
/-- the box's object: its class, its fields -/
theorem BoxAt.ob {bc : Kd → Addr} {S : Addr} {K : PySem.W.Frag} {H : Hp} {t : At} (h : BoxAt bc S K H t) : ∃ (dx y dy : Addr) (fs : List (Str × V)), H t.x = some (.ins (bc t.own.kd) dx fs) ∧ fs.lookup (Str.ofString "name") = some (.str (sO t.nm)) ∧ fs.lookup (Str.ofString "style") = some (.ref y) ∧ H y = some (.ins S dy (styL t.st)) ∧ fs.lookup (Str.ofString "held_boxes") = none ∧ NameOk t.nm ∧ OkL K H t.st := by
  cases h with
  | words hx hy ok hn ht => exact ⟨_, _, _, _, hx, rfl, rfl, hy, rfl, hn, ok⟩
  | picture hx hy ok hn ha hd => exact ⟨_, _, _, _, hx, rfl, rfl, hy, rfl, hn, ok⟩
  | row hx hy ok hn g0 l0 hb lk hk => exact ⟨_, _, _, _, hx, rfl, rfl, hy, rfl, hn, ok⟩
  | pile hx hy ok hn g0 hb lk hk => exact ⟨_, _, _, _, hx, rfl, rfl, hy, rfl, hn, ok⟩
  | grid hx hy ok hn g0 l0 hb lk hk hc tc oc nc hr tr or nr hs ts lsp lcs lrs => exact ⟨_, _, _, _, hx, rfl, rfl, hy, rfl, hn, ok⟩
theorem BoxAt.tyx {bc : Kd → Addr} {S B : Addr} {K : PySem.W.Frag} {H : Hp} {t : At} (h : BoxAt bc S K H t) (F : KdF K bc B) : TyX K H (.ref t.x) (.ref (bc t.own.kd)) := by
  obtain ⟨dx, y, dy, fs, hx, _⟩ := h.ob
  exact .base (.ins hx (F.cl _) (F.wc _) F.wg F.wt (F.wm _))
theorem BoxAt.kid {bc : Kd → Addr} {S : Addr} {K : PySem.W.Frag} {H : Hp} {t : At} (h : BoxAt bc S K H t) : ∀ k ∈ t.kids, BoxAt bc S K H k := by
  cases h with
  | words hx hy ok hn ht => exact fun k m => by cases m
  | picture hx hy ok hn ha hd => exact fun k m => by cases m
  | row hx hy ok hn g0 l0 hb lk hk => exact hk
  | pile hx hy ok hn g0 hb lk hk => exact hk
  | grid hx hy ok hn g0 l0 hb lk hk hc tc oc nc hr tr or nr hs ts lsp lcs lrs => exact hk
theorem BoxAt.few {bc : Kd → Addr} {S : Addr} {K : PySem.W.Frag} {H : Hp} {t : At} (h : BoxAt bc S K H t) : t.kids.length ≤ 1000 := by
  cases h with
  | words hx hy ok hn ht => exact Nat.zero_le _
  | picture hx hy ok hn ha hd => exact Nat.zero_le _
  | row hx hy ok hn g0 l0 hb lk hk => exact lk
  | pile hx hy ok hn g0 hb lk hk => exact lk
  | grid hx hy ok hn g0 l0 hb lk hk hc tc oc nc hr tr or nr hs ts lsp lcs lrs => exact lk
/-! #### in order, each with its holder's name -/
mutual
def At.pre : At → V → List (Addr × List Nat × V)
  | .mk x nm _ _ ks, h => (x, nm, h) :: preL ks (.str (sO nm))
def preL : List At → V → List (Addr × List Nat × V)
  | [], _ => []
  | k :: ks, h => k.pre h ++ preL ks h
end
mutual
def At.depth : At → Nat
  | .mk _ _ _ _ ks => depthL ks + 1
def depthL : List At → Nat
  | [] => 0
  | k :: ks => max k.depth (depthL ks)
end
theorem preL_app : ∀ (a b : List At) (h : V), preL (a ++ b) h = preL a h ++ preL b h
  | [], b, h => by rw [List.nil_append, preL, List.nil_append]
  | k :: a, b, h => by rw [List.cons_append, preL, preL, preL_app a b h, List.append_assoc]
theorem preL_snoc {ks : List At} {i : Nat} {k : At} (h : ks[i]? = some k) (v : V) : preL (ks.take (i + 1)) v = preL (ks.take i) v ++ k.pre v := by
  rw [List.take_add_one, h, preL_app]
  show preL _ v ++ preL [k] v = _
  rw [preL, preL, List.append_nil]
theorem preL_le (ks : List At) (i : Nat) (v : V) : (preL (ks.take i) v).length ≤ (preL ks v).length := by
  conv => rhs; rw [← List.take_append_drop i ks, preL_app, List.length_append]
  omega
theorem At.pre_eq (t : At) (h : V) : t.pre h = (t.x, t.nm, h) :: preL t.kids (.str (sO t.nm)) := by
  cases t; rw [At.pre]; rfl
theorem At.depth_eq (t : At) : t.depth = depthL t.kids + 1 := by
  cases t; rw [At.depth]; rfl
theorem depth_kid {k : At} : ∀ {ks : List At}, k ∈ ks → k.depth ≤ depthL ks
  | j :: ks, m => by
    rw [depthL]
    rcases List.mem_cons.mp m with rfl | m
    · exact Nat.le_max_left _ _
    · exact Nat.le_trans (depth_kid m) (Nat.le_max_right _ _)
/-! #### a method of one name in each of the classes -/
structure HeldM (P : Program) (w : World) (K : PySem.W.Frag) (mg : Str → Option Value) (base : Heap) (k : Nat) (C : Addr) (m : Str) (sp : Sp) : Prop where
  ex : ∃ (f : Addr) (fd : FuncData) (ps : List Str), Cls K C ∧ Meth K C m f ∧ FnOk P w K mg base CX0 k f fd ps sp ∧ Binds K fd ps []
def tMethK (bc : Kd → Addr) (m : Str) (sp : Kd → Sp) (ta : TE) : TE := fun σ H Q => ta σ H fun x H1 => ∃ a kd dx fs, x = .ref a ∧ H1 a = some (.ins (bc kd) dx fs) ∧ fs.lookup m = none ∧ sp kd [x] H1 Q E0
section
variable {X : Cx} {k : Nat} {bc : Kd → Addr} {sp : Kd → Sp} {m : Str} {pos apos : Pos} {o : Expr} {ta : TE}
theorem pe_methK {pl : Sem Bool} (he : PE X o ta) (A : ∀ kd, HeldM X.prog X.w X.K X.mg X.base k (bc kd) m (sp kd)) (hr : Room k X.A)
    (ht : eval (.Call (.Attribute o m apos) [] [] pos) X.env = (do
      let ov ← eval o X.env
      standAt apos.atName
      let (f, first) ← holding [ov] (getMethod ov m pl)
      callWith pos f first (backTo pos (starEach [] X.env)) (backToKw pos (keywordEach [] X.env))) := by rfl) :
    PE X (.Call (.Attribute o m apos) [] [] pos) (tMethK bc m sp ta) := by
  refine ⟨fun pins s σ H Q I h => ?_⟩
  refine PySem.W.methodCall_KW (pl := pl) (thn (he.run pins s σ H _ I h) fun u s1 ⟨x, H1, I1, rx, a, kd, dx, fs, ex, ea, l, q⟩ => ?_) ht
  subst ex
  obtain rfl : u = Value.ref a := rx
  obtain ⟨f, fd, ps, c, hm, F, hb⟩ := (A kd).ex
  refine getmeth_ok I1 ea c hm l ?_
  exact PySem.W.callWith_K0 (first := [.ref a]) I1.kIn hm.kp (run_fn (us := [.ref a]) (vs := [.ref a]) (dvs := []) F hr hb .nil pass0 I1 (.cons rfl .nil) q)
end
end My
namespace My
open PySem PySem.Spec PyProof.Rows L2
/-- what may be handed in as a style: nothing, or a style's object -/
def StyAt (K : PySem.W.Frag) (H : Hp) (S U : Addr) (v : V) : Prop := v = .non ∨ ∃ (y dy : Addr) (st : List V), v = .ref y ∧ H y = some (.ins S dy (styL st)) ∧ OkL K H st
/-- the values that the box's style has then -/
def StyIs (K : PySem.W.Frag) (H : Hp) (S U : Addr) (v : V) (st : List V) : Prop := (v = .non ∧ st = dfltL U) ∨ ∃ (y dy : Addr), v = .ref y ∧ H y = some (.ins S dy (styL st))
/-- the style's step in an __init__: what checked_style asks -/
theorem sty_step {K : PySem.W.Frag} {H H3 : Hp} {S U : Addr} {sv : V} {R : Addr → Hp → Prop} (hs : StyAt K H S U sv) (t : ∀ H, SqT K H U [.int 0, .int 0, .int 0, .int 0]) (p : KeepS H H3)
    (k : ∀ (y dy : Addr) (st : List V) (H' : Hp), Same H3 H' → StyIs K H S U sv st → H' y = some (.ins S dy (styL st)) → st.length = 10 → (∀ H4, KeepS H H4 → OkL K H4 st) → R y H') :
    (sv = .non ∧ ∀ (y dy : Addr) H', Same H3 H' → H' y = some (.ins S dy (styL (dfltL U))) → R y H') ∨ ∃ (y dy : Addr) (st : List V), sv = .ref y ∧ H3 y = some (.ins S dy (styL st)) ∧ R y H3 := by
  rcases hs with rfl | ⟨y, dy, st, rfl, hy, ok⟩
  · exact .inl ⟨rfl, fun y dy H' s g => k y dy _ H' s (.inl ⟨rfl, rfl⟩) g rfl fun H4 _ => dflt_ok t⟩
  · exact .inr ⟨y, dy, st, rfl, p.sty ok.1 hy, k y dy st H3 (Same.refl _) (.inr ⟨y, dy, rfl, hy⟩) (p.sty ok.1 hy) ok.1 fun H4 q => q.okL ok⟩
theorem sty_ne {H : Hp} {x y S C dx dy : Addr} {st : List V} {fs : List (Str × V)} (gy : H y = some (.ins S dy (styL st))) (ok : st.length = 10) (gx : H x = some (.ins C dx fs)) (n : fs.length ≠ 10) : y ≠ x := by
  rintro rfl
  rw [gx] at gy
  cases gy
  exact n (by unfold styL; rw [List.length_zip, ok]; rfl)
/-- the boxes right in a box -/
def sp_held (bc : Kd → Addr) (S : Addr) (K : PySem.W.Frag) (kd : Kd) : Sp := fun vs H Q _ => ∃ t : At, vs = [.ref t.x] ∧ BoxAt bc S K H t ∧ t.own.kd = kd ∧ ∀ b H', Same H H' → H' b = some (.tup (refs t.kids)) → Q (.ref b) H'
def sp_held2 (bc : Kd → Addr) (S : Addr) (K : PySem.W.Frag) : Sp := fun vs H Q _ => ∃ t : At, vs = [.ref t.x] ∧ BoxAt bc S K H t ∧ (t.own.kd = .words ∨ t.own.kd = .picture) ∧ ∀ b H', Same H H' → H' b = some (.tup (refs t.kids)) → Q (.ref b) H'
theorem BoxAt.leaf {bc : Kd → Addr} {S : Addr} {K : PySem.W.Frag} {H : Hp} {t : At} (h : BoxAt bc S K H t) (k : t.own.kd = .words ∨ t.own.kd = .picture) : t.kids = [] := by
  cases h with
  | words hx hy ok hn ht => rfl
  | picture hx hy ok hn ha hd => rfl
  | row => rcases k with k | k <;> cases k
  | pile => rcases k with k | k <;> cases k
  | grid => rcases k with k | k <;> cases k
end My
namespace My
open PySem PySem.Spec PyProof.Rows L2
theorem kdct_mk {K : PySem.W.Frag} {w : World} {a C : Addr} {x : Str} {es : Array DictEntry} {n : Nat} (l : K.lookup a = some ⟨.type "dict", none, .dict es n, #[]⟩) (k : PySem.W.KeysLit w.params es.toList) (e : PySem.W.nsIn K a x = some (some (.ref C))) : KDct K w a x (.ref C) := ⟨es, n, _, l, k, e, rfl⟩
theorem ix_kdictK {X : Cx} {K : PySem.W.Frag} {w : World} (h : X.K = K) (hw : X.w = w) : IxR X (rIxD K w) := by subst h hw; exact ix_kdict
end My
namespace My
open PySem PySem.Spec PyProof.Rows L2
/-- a def with keyword-only defaults -/
def dfKs_mk {K : PySem.W.Frag} {mg : Str → Option Value} {x : Str} {st : Stmt} {ps : List Str} {kws : List (Str × V)} {h : Heap} (X : K.In h) (G : h.Ns mainGlobals mg) {f D : Addr} {oc : Value} {od an : Option Addr} {osl : Array (Option Value)} {doc pm cdv ct : Value} (n : Nat)
    (a : PySem.W.nsIn K mainGlobals x = some (some (.ref f))) (l : K.lookup f = some ⟨oc, od, .func (PySem.W.fnOf x x (defArgs st) (defBody st) (defScope st) .none (.ref D) doc pm an cdv ct), osl⟩)
    (c : PySem.W.codeIn K cdv x = true) (k : PySem.W.keepIn K (.ref f) = true) (kw : KwIn K D kws) (hk : kws ≠ []) (hn : n + kws.length = ps.length)
    (hb : ∀ (D : Addr) (doc pm : Value) (an : Option Addr) (cdv ct : Value) (us ks : List Value), us.length = n → ks.length = kws.length →
      KwChain D ((kws.map (·.1)).zip ks) (bindArgs (PySem.W.fnOf x x (defArgs st) (defBody st) (defScope st) .none (.ref D) doc pm an cdv ct) ⟨us, []⟩) (ps.zip (us ++ ks))) : DfK K mg x st ps kws :=
  have F : FunD K x x (defArgs st) (defBody st) (defScope st) [] kws f (PySem.W.fnOf x x (defArgs st) (defBody st) (defScope st) .none (.ref D) doc pm an cdv ct) := ⟨⟨oc, od, .none, .ref D, doc, pm, an, cdv, ct, osl, rfl, l, c, .inl ⟨rfl, rfl⟩, .inr ⟨D, rfl, kw.all⟩⟩, k⟩
  ⟨f, _, F, F.binds0 n hk hn hb, PySem.W.mg_of X G a⟩
end My
namespace My
open PySem PySem.Spec PyProof.Rows L2
/-- an __init__ without defaults -/
structure Ini0 (K : PySem.W.Frag) (q : Str) (st : Stmt) (C : Addr) (ps : List Str) where
  f : Addr
  fd : FuncData
  F : Fun K "__init__" q st f fd
  b : Binds K fd ps []
  mks : Mk K C f
def ini0_mk {K : PySem.W.Frag} {q : Str} {st : Stmt} {C : Addr} {ps : List Str} {f : Addr} {oc : Value} {od an : Option Addr} {osl : Array (Option Value)} {kV doc pm cdv ct : Value}
    (i : PySem.W.findIn K (.ref C) "__init__" = some (some (.ref f))) (m : PySem.W.makesIn K C = true) (fn : PySem.W.isFn K (.ref f) = true) (kc : PySem.W.keepIn K (.ref C) = true)
    (l : K.lookup f = some ⟨oc, od, .func (PySem.W.fnOf "__init__" q (defArgs st) (defBody st) (defScope st) .none kV doc pm an cdv ct), osl⟩) (c : PySem.W.codeIn K cdv q = true) (k : PySem.W.keepIn K (.ref f) = true)
    (hb : ∀ (kV doc pm : Value) (an : Option Addr) (cdv ct : Value) (us : List Value), us.length = ps.length → bindArgs (PySem.W.fnOf "__init__" q (defArgs st) (defBody st) (defScope st) .none kV doc pm an cdv ct) ⟨us, []⟩ = pure (ps.zip us)) : Ini0 K q st C ps :=
  ⟨f, _, fun_mk l c k, (fun_mk l c k).binds hb, ⟨m, i, fn, kc⟩⟩
end My

/-! ### functions handed on: their cells lie still meanwhile -/
namespace My
open PySem PySem.Spec PyProof.Rows L2 LamX NdefX
/-- a cell that lies still -/
abbrev fz (o : Obj) : HO := .frz o (.ext fun _ => True)
def dropC (cs : List Addr) (H : Hp) : Hp := fun a => if a ∈ cs then none else H a
def addC (cs : List Addr) (h : Heap) (H : Hp) : Hp := fun a => if a ∈ cs then (h.get? a).map fz else H a
def reC (cs : List Addr) (H H' : Hp) : Hp := fun a => if a ∈ cs then H a else H' a
theorem dropC_in {cs : List Addr} {H : Hp} {a : Addr} (h : a ∈ cs) : dropC cs H a = none := if_pos h
theorem dropC_out {cs : List Addr} {H : Hp} {a : Addr} (h : a ∉ cs) : dropC cs H a = H a := if_neg h
theorem addC_out {cs : List Addr} {h : Heap} {H : Hp} {a : Addr} (n : a ∉ cs) : addC cs h H a = H a := if_neg n
theorem addC_in {cs : List Addr} {h : Heap} {H : Hp} {a : Addr} {o : Obj} (n : a ∈ cs) (e : h.get? a = some o) : addC cs h H a = some (fz o) := by
  unfold addC; rw [if_pos n, e]; rfl
theorem reC_in {cs : List Addr} {H H' : Hp} {a : Addr} (h : a ∈ cs) : reC cs H H' a = H a := if_pos h
theorem reC_out {cs : List Addr} {H H' : Hp} {a : Addr} (h : a ∉ cs) : reC cs H H' a = H' a := if_neg h
theorem fz_still {o : Obj} (h : Still (fz o)) : False := h
theorem ks_drop {cs : List Addr} {H : Hp} (h : ∀ c ∈ cs, ∃ o, H c = some (fz o)) : KeepS H (dropC cs H) := fun a o e st => by
  by_cases m : a ∈ cs
  · obtain ⟨u, q⟩ := h a m
    rw [q] at e; cases e; exact (fz_still st).elim
  · rw [dropC_out m]; exact e
theorem ks_ext {H H' : Hp} (e : ExtN H H') : KeepS H H' := fun a o h st => e a o h fun ps z => by subst z; exact st
theorem same_re {cs : List Addr} {H H' : Hp} (n : ∀ c ∈ cs, H' c = none) : Same H' (reC cs H H') := fun a o e => by
  rw [reC_out fun m => by rw [n a m] at e; cases e]; exact e
theorem re_same {cs : List Addr} {H H' : Hp} (s : Same (dropC cs H) H') : Same H (reC cs H H') := fun a o e => by
  by_cases m : a ∈ cs
  · rw [reC_in m]; exact e
  · rw [reC_out m]; exact s a o (by rw [dropC_out m]; exact e)
section
variable {P : Program} {w : World} {K : PySem.W.Frag} {mg : Str → Option Value} {base : Heap} {cs : List Addr} {H H' : Hp} {h : Heap}
theorem hok_add (ok : HOk P w H h) (n : ∀ c ∈ cs, H c = none) (e : ∀ c ∈ cs, ∃ o, h.get? c = some o) : HOk P w (addC cs h H) h := fun a u q => by
  by_cases m : a ∈ cs
  · obtain ⟨o, eo⟩ := e a m
    rw [addC_in m eo] at q
    cases q
    exact ⟨eo, trivial, ⟨o, eo⟩, fun _ _ _ _ => trivial⟩
  · rw [addC_out m] at q
    refine (ok a u q).stay (fun b v _ z => z) (fun b z => ?_) fun b xs z => ?_
    · rw [addC_out fun mb => by rw [n b mb] at z; cases z]; exact z
    · rw [addC_out fun mb => by rw [n b mb] at z; cases z]; exact z
theorem hok_drop (ok : HOk P w H h) (f : ∀ c ∈ cs, ∃ o, H c = some (fz o)) : HOk P w (dropC cs H) h := fun a u q => by
  by_cases m : a ∈ cs
  · rw [dropC_in m] at q; cases q
  · rw [dropC_out m] at q
    refine (ok a u q).stay (fun b v _ z => z) (fun b z => ?_) fun b xs z => ?_
    · rw [dropC_out fun mb => by obtain ⟨o, e⟩ := f b mb; rw [e] at z; cases z]; exact z
    · rw [dropC_out fun mb => by obtain ⟨o, e⟩ := f b mb; rw [e] at z; cases z]; exact z
/-- behind a call in which the cells lay still -/
theorem ce_drop {outer : List Env} {s s' : Shared} {Q : VK} {u : Value} (n : ∀ c ∈ cs, H c = none) (e : ∀ c ∈ cs, ∃ o, s.heap.get? c = some o)
    (q : CE outer P w (addC cs s.heap H) s (fun v H' => (∀ c ∈ cs, H' c = addC cs s.heap H c) → Q v (dropC cs H')) u s') : CE outer P w H s Q u s' := by
  obtain ⟨v, H', os, bare, un, ok, r, k⟩ := q
  have fr : ∀ c ∈ cs, ∃ o, s.heap.get? c = some o ∧ H' c = some (fz o) := fun c m => by
    obtain ⟨o, eo⟩ := e c m
    exact ⟨o, eo, un.frzs c o _ (addC_in m eo)⟩
  have out : ∀ {b : Addr} {x : HO}, H b = some x → b ∉ cs := fun {b x} z m => by rw [n b m] at z; cases z
  refine ⟨v, dropC cs H', os, bare, ⟨fun b o eb nb hb hx => ?_, fun b o eb nb hb hx => ?_, fun b o eb nb hx => ?_, fun b o eb hx => un.there b o eb hx, fun b xs z => ?_, fun b o x z => ?_, fun b ps z => ?_⟩, hok_drop ok fun c m => let ⟨o, _, z⟩ := fr c m; ⟨o, z⟩, r, k fun c m => by
    obtain ⟨o, eo, z⟩ := fr c m
    rw [z, addC_in m eo]⟩
  · by_cases m : b ∈ cs
    · obtain ⟨o2, e2, z⟩ := fr b m
      rw [eb] at e2; cases e2
      exact (ok b _ z).1
    · exact un.keep b o eb (by rw [addC_out m]; exact nb) hb hx
  · by_cases m : b ∈ cs
    · obtain ⟨o2, e2, z⟩ := fr b m
      rw [eb] at e2; cases e2
      exact ⟨o.slots, (ok b _ z).1⟩
    · exact un.slot b o eb (by rw [addC_out m]; exact nb) hb hx
  · by_cases m : b ∈ cs
    · exact dropC_in m
    · rw [dropC_out m]; exact un.free b o eb (by rw [addC_out m]; exact nb) hx
  · rw [dropC_out (out z)]; exact un.tups b xs (by rw [addC_out (out z)]; exact z)
  · rw [dropC_out (out z)]; exact un.frzs b o x (by rw [addC_out (out z)]; exact z)
  · obtain ⟨more, q⟩ := un.tbls b ps (by rw [addC_out (out z)]; exact z)
    exact ⟨more, by rw [dropC_out (out z)]; exact q⟩
/-- behind a call that could reach the cells -/
theorem ce_re {outer : List Env} {s s' : Shared} {Q : VK} {u : Value} (ok0 : HOk P w H s.heap) (f : ∀ c ∈ cs, ∃ o, H c = some (fz o)) (nf : ∀ c ∈ cs, c ∉ frs outer)
    (q : CE outer P w (dropC cs H) s (fun v H' => (∀ c ∈ cs, H' c = none) → Q v (reC cs H H')) u s') : CE outer P w H s Q u s' := by
  obtain ⟨v, H', os, bare, un, ok, r, k⟩ := q
  have there : ∀ c ∈ cs, ∃ o, s.heap.get? c = some o ∧ H c = some (fz o) := fun c m => by
    obtain ⟨o, z⟩ := f c m
    exact ⟨o, (ok0 c _ z).1, z⟩
  have none' : ∀ c ∈ cs, H' c = none := fun c m => by
    obtain ⟨o, eo, _⟩ := there c m
    exact un.free c o eo (dropC_in m) (by simp)
  have kept : ∀ c ∈ cs, ∀ o, s.heap.get? c = some o → s'.heap.get? c = some o := fun c m o eo => un.keep c o eo (dropC_in m) (nf c m) (by simp)
  have outN : ∀ {b : Addr}, H b = none → b ∉ cs := fun {b} z m => by obtain ⟨o, e⟩ := f b m; rw [e] at z; cases z
  refine ⟨v, reC cs H H', os, bare, ⟨fun b o eb nb hb hx => ?_, fun b o eb nb hb hx => ?_, fun b o eb nb hx => ?_, fun b o eb hx => un.there b o eb hx, fun b xs z => ?_, fun b o x z => ?_, fun b ps z => ?_⟩, fun a x z => ?_, r, k none'⟩
  · exact un.keep b o eb (by rw [dropC_out (outN nb)]; exact nb) hb hx
  · exact un.slot b o eb (by rw [dropC_out (outN nb)]; exact nb) hb hx
  · rw [reC_out (outN nb)]; exact un.free b o eb (by rw [dropC_out (outN nb)]; exact nb) hx
  · have m : b ∉ cs := fun m => by obtain ⟨o, e⟩ := f b m; rw [e] at z; cases z
    rw [reC_out m]; exact un.tups b xs (by rw [dropC_out m]; exact z)
  · by_cases m : b ∈ cs
    · rw [reC_in m]; exact z
    · rw [reC_out m]; exact un.frzs b o x (by rw [dropC_out m]; exact z)
  · have m : b ∉ cs := fun m => by obtain ⟨o, e⟩ := f b m; rw [e] at z; cases z
    obtain ⟨more, q⟩ := un.tbls b ps (by rw [dropC_out m]; exact z)
    exact ⟨more, by rw [reC_out m]; exact q⟩
  · by_cases m : a ∈ cs
    · rw [reC_in m] at z
      obtain ⟨o, eo, zo⟩ := there a m
      rw [zo] at z; cases z
      have e' := kept a m o eo
      exact ⟨e', trivial, ⟨o, e'⟩, fun _ _ _ _ => trivial⟩
    · rw [reC_out m] at z
      have nC : ∀ {d : Addr} {y : HO}, H' d = some y → d ∉ cs := fun {d y} q md => by rw [none' d md] at q; cases q
      refine (ok a x z).stay (fun b y _ q => q) (fun b q => ?_) fun b xs q => ?_
      · rw [reC_out (nC q)]; exact q
      · rw [reC_out (nC q)]; exact q
end
/-- what the captured cells hold, lying still -/
structure CelZ (cl : List (Str × Addr)) (fr : List Str) (ws : List (Option V)) (H : Hp) : Prop where
  len : ws.length = fr.length
  fz : ∀ p ∈ cl, ∃ o u, H p.2 = some (My.fz o) ∧ o.data = .cell u
  inj : ∀ x y c, cl.lookup x = some c → cl.lookup y = some c → x = y
  has : ∀ (i : Nat) (y : Str), fr[i]? = some y → ∃ c, cl.lookup y = some c ∧ ∀ v, ws[i]? = some (some v) → ∃ o u, H c = some (My.fz o) ∧ o.data = .cell (some u) ∧ RelV v u
theorem CelZ.keep {cl : List (Str × Addr)} {fr : List Str} {ws : List (Option V)} {H H' : Hp} (h : CelZ cl fr ws H) (e : Same H H') : CelZ cl fr ws H' :=
  ⟨h.len, fun p m => let ⟨o, u, a, b⟩ := h.fz p m; ⟨o, u, e _ _ a, b⟩, h.inj, fun i y q => let ⟨c, a, b⟩ := h.has i y q; ⟨c, a, fun v z => let ⟨o, u, p, r⟩ := b v z; ⟨o, u, e _ _ p, r⟩⟩⟩
theorem CelZ.drops {cl : List (Str × Addr)} {fr : List Str} {ws : List (Option V)} {H : Hp} (h : CelZ cl fr ws H) : ∀ c ∈ cl.map (·.2), ∃ o, H c = some (My.fz o) := fun c m => by
  obtain ⟨p, mp, rfl⟩ := List.mem_map.mp m
  obtain ⟨o, u, e, _⟩ := h.fz p mp
  exact ⟨o, e⟩
/-- the cells of a frame, laid still for a call -/
structure FzAt (cl : List (Str × Addr)) (fr : List Str) (ws : List (Option V)) (H H2 : Hp) : Prop extends CelZ cl fr ws H2 where
  none : ∀ p ∈ cl, H p.2 = Option.none
  out : ∀ a, a ∉ cl.map (·.2) → H2 a = H a
theorem FzAt.same {cl : List (Str × Addr)} {fr : List Str} {ws : List (Option V)} {H H2 : Hp} (h : FzAt cl fr ws H H2) : Same H H2 := fun a o e => by
  rw [h.out a fun m => by obtain ⟨p, mp, rfl⟩ := List.mem_map.mp m; rw [h.none p mp] at e; cases e]; exact e
theorem FzAt.back {cl : List (Str × Addr)} {fr : List Str} {ws : List (Option V)} {H H2 H' : Hp} (h : FzAt cl fr ws H H2) (s : Same H2 H') : Same H (dropC (cl.map (·.2)) H') := fun a o e => by
  rw [dropC_out fun m => by obtain ⟨p, mp, rfl⟩ := List.mem_map.mp m; rw [h.none p mp] at e; cases e]
  exact s a o (h.same a o e)
theorem FzAt.ks {cl : List (Str × Addr)} {fr : List Str} {ws : List (Option V)} {H H2 H' : Hp} (h : FzAt cl fr ws H H2) (z : ∀ c ∈ cl.map (·.2), H' c = H2 c) : KeepS H' (dropC (cl.map (·.2)) H') :=
  ks_drop fun c m => by
    obtain ⟨o, e⟩ := h.toCelZ.drops c m
    exact ⟨o, by rw [z c m]; exact e⟩
/-! #### a call during which the frame's captured cells lie still -/
def tCallZ (cl : List (Str × Addr)) (fr : List Str) (js : List Nat) (sp : Sp) (dvs : List V) (t : TA) : TE := fun σ H Q => t σ H fun vs H1 => ∀ H2, FzAt cl fr (js.map (slotAt σ)) H1 H2 → sp (vs ++ dvs) H2 (fun v H' => (∀ c ∈ cl.map (·.2), H' c = H2 c) → Q v (dropC (cl.map (·.2)) H')) E0
section
variable {X : Cx} {pins : List (Addr × Obj)} {σ : L2.St} {H : Hp} {s : Shared} {cl : List (Str × Addr)} {fr : List Str} {js : List Nat} {k : Nat} {f : Addr} {fd : FuncData} {ps : List Str} {sp : Sp} {dvs : List V} {ds : List Value} {t : TA} {x : Str} {p pos : Pos} {e : Expr} {es : List Expr}
theorem env0_add {cs : List Addr} (I : Inv X pins σ H s) (nw : ∀ c ∈ cs, X.s_0.heap.objs.size ≤ c ∧ c ≠ X.env.locals ∧ H c = none ∧ ∃ o, s.heap.get? c = some o) : Env0 X.prog X.w X.K X.mg X.base X.A X.stack s (addC cs s.heap H) := by
  have q := I.env0
  refine ⟨q.frames, q.mod, fun b o eb => ⟨(q.bs b o eb).1, ?_⟩, q.bsz, q.funs, fun b hb => ?_, hok_add I.hok (fun c m => (nw c m).2.2.1) fun c m => (nw c m).2.2.2, q.bare⟩
  · rw [addC_out fun m => ?_]
    · exact (q.bs b o eb).2
    · exact absurd (Nat.lt_of_lt_of_le (Heap.lt_size eb) (Nat.le_trans I.ok.bsz (nw b m).1)) (Nat.lt_irrefl _)
  · rw [addC_out fun m => ?_]
    · exact q.frf b hb
    · rcases List.mem_cons.mp (I.stkSub b hb) with z | z
      · exact (nw b m).2.1 z
      · obtain ⟨_, o, ho, _⟩ := I.ok.funs.mem z
        exact absurd (Nat.lt_of_lt_of_le (Heap.lt_size ho) (nw b m).1) (Nat.lt_irrefl _)
theorem run_fnZ {Q : VK} {us : List Value} {vs : List V} (F : FnOk X.prog X.w X.K X.mg X.base CX0 k f fd ps sp) (hr : Room k X.A) (hb : Binds X.K fd ps ds) (hd : Vals dvs ds) (cp : Caps X cl fr js) (hin : ∀ q ∈ cl, X.env.cells.lookup q.1 = some q.2 ∧ X.fn q.1 = true) (I : Inv X pins σ H s) (r : Vals vs us)
    (h : ∀ H2, FzAt cl fr (js.map (slotAt σ)) H H2 → sp (vs ++ dvs) H2 (fun v H' => (∀ c ∈ cl.map (·.2), H' c = H2 c) → Q v (dropC (cl.map (·.2)) H')) E0) : wpAny (model X.prog X.w) X.A (call (.ref f) us) (EP X pins σ Q) X.xe s := by
  have C := cells_of I cp
  have nw : ∀ c ∈ cl.map (·.2), X.s_0.heap.objs.size ≤ c ∧ c ≠ X.env.locals ∧ H c = none ∧ ∃ o, s.heap.get? c = some o := fun c m => by
    obtain ⟨q, mq, rfl⟩ := List.mem_map.mp m
    obtain ⟨e1, e2⟩ := hin q mq
    obtain ⟨v, o, ho, _⟩ := I.cell _ _ e1
    exact ⟨I.ok.cab _ _ e2 e1, I.cne _ _ e1, I.freeC _ _ e1, o, ho⟩
  have hz : FzAt cl fr (js.map (slotAt σ)) H (addC (cl.map (·.2)) s.heap H) := by
    refine ⟨⟨C.len, fun q mq => ?_, C.inj, fun i y ey => ?_⟩, fun q mq => (nw _ (List.mem_map.mpr ⟨q, mq, rfl⟩)).2.2.1, fun a ha => addC_out ha⟩
    · obtain ⟨v, o, ho, hd⟩ := I.cell _ _ (hin q mq).1
      exact ⟨o, v, addC_in (List.mem_map.mpr ⟨q, mq, rfl⟩) ho, hd⟩
    · obtain ⟨c, hc, hv⟩ := C.has i y ey
      refine ⟨c, hc, fun v ev => ?_⟩
      obtain ⟨u, ru, o, ho, hd⟩ := hv v ev
      exact ⟨o, u, addC_in (List.mem_map.mpr ⟨(y, c), PySem.mem_of_lookup hc, rfl⟩) ho, hd, ru⟩
  have r2 : Vals (vs ++ dvs) (us ++ ds) := r.append hd
  have q := h _ hz
  have hl : (us ++ ds).length = ps.length := by rw [← r2.length]; exact F.len _ _ _ _ q
  refine wpAny_call (codeAny_mono (F.run X.A X.stack s _ ⟨us, []⟩ (us ++ ds) (vs ++ dvs) _ E0 hr (env0_add I nw) (hb s us I.kIn hl) r2 q) fun r s' hq => ?_)
  cases r with
  | error e => exact (show False from hq).elim
  | ok fl =>
    cases fl with
    | ret u => exact I.after (ce_drop (fun c m => (nw c m).2.2.1) (fun c m => (nw c m).2.2.2) hq)
    | next => exact False.elim hq
    | brk => exact False.elim hq
    | cont => exact False.elim hq
theorem pe_callZ (F : FnOk X.prog X.w X.K X.mg X.base CX0 k f fd ps sp) (hr : Room k X.A) (hg : Gl X x) (hm : X.mg x = some (.ref f)) (hk : PySem.W.keepIn X.K (.ref f) = true) (hb : Binds X.K fd ps ds) (hd : Vals dvs ds) (cp : X.Ok → Caps X cl fr js) (hin : X.Ok → ∀ q ∈ cl, X.env.cells.lookup q.1 = some q.2 ∧ X.fn q.1 = true)
    (ha : PA X (e :: es) t) (z1 : (x == ("__debug__" : Str)) = false := by decide) (z2 : starEach (e :: es) X.env = (false, eval e X.env) :: starEach es X.env := by rfl) (z3 : (backTo pos (starEach es X.env)).any (·.1) = false := by rfl) :
    PE X (.Call (.Name x p) (e :: es) [] pos) (tCallZ cl fr js sp dvs t) := by
  refine ⟨fun pins s σ H Q I h => ?_⟩
  refine wpAny_Call_Name_kw (ld_glob I hg hm ?_ z1)
  refine PySem.W.callWith_K (h₀ := X.base) I.ok.mod.kin hk (thn (ha.run pos pins s σ H _ I h) fun us s1 ⟨vs, H1, I1, r, q⟩ => ⟨I1.kIn, ?_⟩) z2 z3
  exact run_fnZ F hr hb hd (cp I1.ok) (hin I1.ok) I1 r q
end
/-! #### a function that was handed on, by what its call does -/
/-- a function stands at f -/
def IsFn (H : Hp) (f : Addr) : Prop := ∃ φ : Heap → Prop, H f = some (.ext φ) ∧ ∀ h, φ h → PySem.W.FnAt f h
theorem IsFn.same {H H' : Hp} {f : Addr} (h : IsFn H f) (s : Same H H') : IsFn H' f := let ⟨φ, e, q⟩ := h; ⟨φ, s _ _ e, q⟩
theorem IsFn.at {P : Program} {w : World} {H : Hp} {h : Heap} {f : Addr} (x : IsFn H f) (ok : HOk P w H h) : PySem.W.FnAt f h := by
  obtain ⟨φ, e, q⟩ := x
  obtain ⟨a, _, _⟩ := ok f _ e
  exact q h a
structure ClosOk (P : Program) (w : World) (K : PySem.W.Frag) (mg : Str → Option Value) (base : Heap) (k : Nat) (H0 : Hp) (f : Addr) (m : Nat) (sp : Sp) : Prop where
  fn : IsFn H0 f
  run : ∀ H, Same H0 H → ∀ (A : Around) (outer : List Env) (s : Shared) (us : List Value) (vs : List V) (Q : VK), Room k A → Env0 P w K mg base A outer s H → Vals vs us → vs.length = m → sp vs H Q E0 → codeAny (model P w) A (.call (.ref f) ⟨us, []⟩) (CR CX0 outer P w H s Q E0) s
theorem ClosOk.same {P : Program} {w : World} {K : PySem.W.Frag} {mg : Str → Option Value} {base : Heap} {k : Nat} {H0 H1 : Hp} {f : Addr} {m : Nat} {sp : Sp} (h : ClosOk P w K mg base k H0 f m sp) (s : Same H0 H1) : ClosOk P w K mg base k H1 f m sp :=
  ⟨h.fn.same s, fun H t => h.run H (s.trans t)⟩
def tCallC (P : Program) (w : World) (K : PySem.W.Frag) (mg : Str → Option Value) (base : Heap) (k i : Nat) (t : TA) : TE := fun σ H Q => ∃ f, σ[i]? = some (some (.ref f)) ∧ IsFn H f ∧ t σ H fun vs H1 => ∃ sp, ClosOk P w K mg base k H1 f vs.length sp ∧ sp vs H1 Q E0
section
variable {X : Cx} {k i : Nat} {x : Str} {p pos : Pos} {e : Expr} {es : List Expr} {t : TA}
theorem pe_callC (hr : Room k X.A) (hN : X.N[i]? = some x) (hv : Vis X.env.scope x) (ha : PA X (e :: es) t) (z1 : (x == ("__debug__" : Str)) = false := by decide) (z0 : (x == ("__classdict__" : Str)) = false := by decide)
    (z2 : starEach (e :: es) X.env = (false, eval e X.env) :: starEach es X.env := by rfl) (z3 : (backTo pos (starEach es X.env)).any (·.1) = false := by rfl) : PE X (.Call (.Name x p) (e :: es) [] pos) (tCallC X.prog X.w X.K X.mg X.base k i t) := by
  refine ⟨fun pins s σ H Q I h => ?_⟩
  obtain ⟨f, hs, hf, ht⟩ := h
  refine wpAny_Call_Name_kw (thn ((pe_var (pos := p) hN hv z1 z0).run pins s σ H (fun v H1 => v = .ref f ∧ H1 = H) I ⟨.ref f, hs, rfl, rfl⟩) fun u s1 ⟨v, H1, I1, r1, q1⟩ => ?_)
  obtain ⟨ev, eH⟩ := q1
  subst ev
  rw [eH] at I1
  obtain rfl : u = Value.ref f := r1
  refine PySem.W.callWith_F (first := []) (hf.at I1.hok) (thn (ha.run pos pins s1 σ H _ I1 ht) fun us s2 ⟨vs, H2, I2, r, sp, hc, q⟩ => ⟨hc.fn.at I2.hok, ?_⟩) z2 z3
  refine wpAny_call (codeAny_mono (hc.run H2 (Same.refl _) X.A X.stack s2 us vs Q hr I2.env0 r rfl q) fun r s' hq => ?_)
  cases r with
  | error e => exact (show False from hq).elim
  | ok fl =>
    cases fl with
    | ret u => exact I2.after hq
    | next => exact False.elim hq
    | brk => exact False.elim hq
    | cont => exact False.elim hq
end
/-! #### what a call of a function does: a def's, a lambda's -/
/-- the object ob at f, its code object at c; the promise: sp ws, ws what its cells hold -/
structure CRun (P : Program) (w : World) (K : PySem.W.Frag) (mg : Str → Option Value) (base : Heap) (k : Nat) (f : Addr) (ob : HO) (c : Addr) (q : Str) (cl : List (Str × Addr)) (ps fr : List Str) (sp : List (Option V) → Sp) : Prop where
  run : ∀ (A : Around) (outer : List Env) (s : Shared) (H : Hp) (us : List Value) (vs : List V) (ws : List (Option V)) (Q : VK), Room k A → Env0 P w K mg base A outer s H → H f = some ob → H c = some (CodeO c q) → CellsAt cl fr ws s.heap H → Vals vs us → vs.length = ps.length → sp ws vs H Q E0 →
    codeAny (model P w) A (.call (.ref f) ⟨us, []⟩) (CR CX0 outer P w H s Q E0) s
theorem env0_drop {P : Program} {w : World} {K : PySem.W.Frag} {mg : Str → Option Value} {base : Heap} {A : Around} {outer : List Env} {s : Shared} {H : Hp} {cs : List Addr} (e : Env0 P w K mg base A outer s H) (f : ∀ c ∈ cs, ∃ o, H c = some (fz o)) : Env0 P w K mg base A outer s (dropC cs H) := by
  have nn : ∀ {a : Addr}, H a = none → dropC cs H a = none := fun {a} n => by
    by_cases m : a ∈ cs
    · exact dropC_in m
    · rw [dropC_out m]; exact n
  exact ⟨e.frames, e.mod, fun b o q => ⟨(e.bs b o q).1, nn (e.bs b o q).2⟩, e.bsz, e.funs, fun b hb => nn (e.frf b hb), hok_drop e.hok f, e.bare⟩
/-- the function is one that may be handed on -/
theorem CRun.clos {P : Program} {w : World} {K : PySem.W.Frag} {mg : Str → Option Value} {base : Heap} {k : Nat} {f c : Addr} {φ : Heap → Prop} {q : Str} {cl : List (Str × Addr)} {ps fr : List Str} {sp : List (Option V) → Sp} (R : CRun P w K mg base k f (.ext φ) c q cl ps fr sp) (hφ : ∀ h, φ h → PySem.W.FnAt f h)
    {H0 : Hp} {ws : List (Option V)} (hf : H0 f = some (.ext φ)) (hc : H0 c = some (CodeO c q)) (hz : CelZ cl fr ws H0) : ClosOk P w K mg base k H0 f ps.length (fun vs H Q _ => sp ws vs (dropC (cl.map (·.2)) H) (fun v H' => (∀ c ∈ cl.map (·.2), H' c = none) → Q v (reC (cl.map (·.2)) H H')) E0) := by
  refine ⟨⟨φ, hf, hφ⟩, fun H s0 A outer s us vs Q hr e0 r hl h => ?_⟩
  have z := hz.keep s0
  have dz := z.drops
  have nfz : ∀ {a : Addr} {x : HO}, H a = some x → (∀ o, x ≠ fz o) → a ∉ cl.map (·.2) := fun {a x} e n m => by
    obtain ⟨o, q⟩ := dz a m
    rw [q] at e; cases e; exact n o rfl
  have nfr : ∀ c ∈ cl.map (·.2), c ∉ frs outer := fun c m n => by
    obtain ⟨o, q⟩ := dz c m
    rw [e0.frf c n] at q; cases q
  have C : CellsAt cl fr ws s.heap (dropC (cl.map (·.2)) H) := by
    refine ⟨z.len, fun y a e => ?_, z.inj, fun i y e => ?_⟩
    · have m : a ∈ cl.map (·.2) := List.mem_map.mpr ⟨(y, a), PySem.mem_of_lookup e, rfl⟩
      obtain ⟨o, u, q, hd⟩ := z.fz (y, a) (PySem.mem_of_lookup e)
      exact ⟨dropC_in m, u, o, (e0.hok a _ q).1, hd⟩
    · obtain ⟨a, ha, hv⟩ := z.has i y e
      refine ⟨a, ha, fun v ev => ?_⟩
      obtain ⟨o, u, q, hd, ru⟩ := hv v ev
      exact ⟨u, ru, o, (e0.hok a _ q).1, hd⟩
  refine codeAny_mono (R.run A outer s _ us vs ws _ hr (env0_drop e0 dz) ?_ ?_ C r hl h) fun r s' hq => ?_
  · rw [dropC_out (nfz (s0 _ _ hf) fun o e => by cases e)]; exact s0 _ _ hf
  · rw [dropC_out (nfz (s0 _ _ hc) fun o e => by unfold CodeO at e; cases e)]; exact s0 _ _ hc
  · cases r with
    | error e => exact (show False from hq).elim
    | ok fl =>
      cases fl with
      | ret u => exact ce_re e0.hok dz nfr hq
      | next => exact hq
      | brk => exact hq
      | cont => exact hq
theorem CRun.of {P : Program} {w : World} {K : PySem.W.Frag} {mg : Str → Option Value} {base : Heap} {k : Nat} {f : Addr} {F : NF} {ps fr : List Str} {sp : List (Option V) → Sp} (N : NOk P w K mg base CX0 k f F ps fr sp) : CRun P w K mg base k f (FnO f F) F.c F.qual F.cl ps fr sp :=
  ⟨fun A outer s H us vs ws Q hr e0 hf hc C r hl h => N.run A outer s H us vs ws Q E0 hr e0 hf hc C r h⟩
/-! #### a lambda -/
def LmO (f : Addr) (F : NF) (e : Expr) : HO := .ext fun h => ∃ (od : Option Addr) (sl : Array (Option Value)) (pm ctv : Value), h.get? f = some (⟨.type "function", od, .func (PySem.W.kla_fn F.name F.qual F.params e F.scope F.cl pm (.ref F.c) ctv), sl⟩ : Obj)
theorem fnAt_fnO {f : Addr} {F : NF} : ∀ h : Heap, (∃ (od : Option Addr) (sl : Array (Option Value)) (doc pm ctv : Value), h.get? f = some (⟨.type "function", od, .func (F.fd doc pm ctv), sl⟩ : Obj)) → PySem.W.FnAt f h := fun h ⟨od, sl, doc, pm, ctv, e⟩ => ⟨_, od, _, sl, e⟩
theorem fnAt_lmO {f : Addr} {F : NF} {e : Expr} : ∀ h : Heap, (∃ (od : Option Addr) (sl : Array (Option Value)) (pm ctv : Value), h.get? f = some (⟨.type "function", od, .func (PySem.W.kla_fn F.name F.qual F.params e F.scope F.cl pm (.ref F.c) ctv), sl⟩ : Obj)) → PySem.W.FnAt f h := fun h ⟨od, sl, pm, ctv, e⟩ => ⟨_, od, _, sl, e⟩
section
variable {P : Program} {w : World} {K : PySem.W.Frag} {mg : Str → Option Value} {base : Heap} {N ps fr : List Str} {F : NF} {e : Expr} {f : Addr} {k : Nat} {sp : List (Option V) → Sp}
/-- a lambda by its body -/
theorem CRun.lam (S : NScope N ps fr F.scope) (hb : ∀ (pm ctv : Value) (us : List Value), us.length = ps.length → bindArgs (PySem.W.kla_fn F.name F.qual F.params e F.scope F.cl pm (.ref F.c) ctv) ⟨us, []⟩ = pure (ps.zip us))
    (body : ∀ (A : Around) (outer : List Env) (s : Shared) (H : Hp) (vs : List V) (ws : List (Option V)) (Q : VK), Room k (A.deeper (envF F f s.heap.objs.size)) → ws.length = fr.length → vs.length = ps.length → sp ws vs H Q E0 → ∃ t, PE (ncx CX0 P w K mg base N F f A outer s H E0) e t ∧ t (startF N vs ws) H Q) :
    CRun P w K mg base (k + 1) f (LmO f F e) F.c F.qual F.cl ps fr sp := by
  refine ⟨fun A outer s H us vs ws Q hr e0 hf hc C r hl h => ?_⟩
  have lim : s.heap.NoLimit := e0.mod.nolimit.keeps fun b o e => (e0.bs b o e).1
  obtain ⟨⟨od, sl, pm, ctv, ho⟩, _, _⟩ := e0.hok f _ hf
  refine PySem.W.kla_callFunE hr.depth ho rfl S.co S.gen rfl (codeO_at e0.hok hc) ?_
  rw [hb pm ctv us (by rw [← r.length]; exact hl)]
  refine wpAny_pure (wpAny_newFunctionEnv S.nocell (fun ⟨n, _⟩ hy => S.par n (List.of_mem_zip hy).1) (fun h1 hns hsb => ⟨lim.fresh _ hsb, ?_⟩) S.kind)
  show codeAny _ _ (.expr e (envF F f s.heap.objs.size)) _ _
  have kp : ∀ b o, s.heap.get? b = some o → h1.get? b = some o := fun b o q => hsb.extBut b o (Nat.ne_of_lt (Heap.lt_size q)) (Heap.get?_push_of_some _ q)
  obtain ⟨t, ht, hq⟩ := body A outer s H vs ws Q (hr.deeper _) C.len hl h
  have I : Inv (ncx CX0 P w K mg base N F f A outer s H E0) [] (startF N vs ws) H { s with heap := h1, toks := s.toks + (ps.zip us).length } := inv_startN S hr.hd e0 hl r C hns kp
  refine PySem.W.kla_codeExpr (wpAny_mono (ht.run [] _ (startF N vs ws) H _ I hq) (fun v s' hs => ?_) fun e s' hs => hs)
  obtain ⟨w', H', J, rv, q⟩ := hs
  exact ⟨w', H', J.os, J.bare, J.base, J.hok, rv, q⟩
end
section
variable {X : Cx} {pins : List (Addr × Obj)} {σ : L2.St} {H : Hp} {s : Shared}
/-- a lambda's object just made is known from now on -/
theorem inv_lm {F : NF} {e : Expr} {t' : Nat} {pm ctv : Value} (I : Inv X pins σ H s) : Inv X pins σ (upd H s.heap.objs.size (LmO s.heap.objs.size F e)) { s with heap := s.heap.push { cls := .type "function", data := .func (PySem.W.kla_fn F.name F.qual F.params e F.scope F.cl pm (.ref F.c) ctv) }, toks := t' } := by
  refine I.laid (a := s.heap.objs.size) (fun b u q => Heap.get?_push_of_some _ q) (Nat.le_refl _) ?_
  have q : (s.heap.push ({ cls := .type "function", data := .func (PySem.W.kla_fn F.name F.qual F.params e F.scope F.cl pm (.ref F.c) ctv) } : Obj)).get? s.heap.objs.size = some ({ cls := .type "function", data := .func (PySem.W.kla_fn F.name F.qual F.params e F.scope F.cl pm (.ref F.c) ctv) } : Obj) := Heap.get?_push_size _ rfl
  exact ⟨⟨_, _, pm, ctv, q⟩, ⟨_, q⟩, fun h1 h2 ⟨od, sl, p, t, z⟩ st => ⟨od, sl, p, t, st _ z⟩⟩
theorem lam_made {T : List (Addr × Str)} {c B : Addr} {params : Arguments} {body : Expr} {scope : Scope} {pos : Pos} {E : Value → Shared → Prop} {Q : Value → Shared → Prop} (I : Inv X pins σ H s) (TB : TabB X.base X.mg c B) (hcode : X.env.code = .ref c)
    (hm : (B, X.env.qual ++ "<lambda>") ∈ T) (hu : ∀ p ∈ T, p.1 = B → p.2 = X.env.qual ++ "<lambda>") (hT : Tabs T H) (hdef : defaultsOf params X.env = ([], [])) (hfree : ∀ y ∈ scope.names, y.2 = .free → ∃ c, X.env.cells.lookup y.1 = some c)
    (h : ∀ (f c' : Addr) (H1 : Hp) (s' : Shared), Inv X pins σ H1 s' → ExtN H H1 → Tabs T H1 → H f = none → H1 f = some (LmO f ⟨"<lambda>", X.env.qual ++ "<lambda>", params, [], scope, cloFrom X.env.cells scope.names [], c'⟩ body) → H1 c' = some (CodeO c' (X.env.qual ++ "<lambda>")) → Q (.ref f) s') :
    wpAny (model X.prog X.w) X.A (eval (.Lambda params body scope pos) X.env) Q E s := by
  obtain ⟨ps, eB, tri, among⟩ := hT _ hm
  refine PySem.W.kla_eval hdef ?_
  have bm := TB.bm.keeps I.bk
  have eB' : s.heap.get? B = some { cls := .none, data := .fields ps } := I.hok B _ eB
  cases hc : codeAmong pos ps.toList with
  | none =>
    refine PySem.W.kla_makeFunction (mg := X.mg) (c := c) (P := B) (ps := ps) (closure_ok hfree) I.ok.glob (I.mod.glob.keeps I.bk) hcode (TB.code.keeps I.bk) eB' tri hc TB.gP bm fun c' ctv g tk hx hge hlt hrec htb => ?_
    obtain ⟨c2, oc, vs, t, e2, hoc, hd, hv⟩ := hrec
    cases e2
    have nC : H c' = none := I.hok.fresh hge
    have J := inv_table (t' := tk) (more := #[rawInt pos.line, rawInt pos.col, .ref c']) (h' := g) I eB (fun b o hb e => hx b o hb e) htb hge ⟨oc, vs, t, hoc, hd, hv⟩
    have hE : ExtN H (upd (upd H B (.tbl (ps ++ #[rawInt pos.line, rawInt pos.col, .ref c']))) c' (CodeO c' (X.env.qual ++ "<lambda>"))) := fun b o e n => by
      rw [upd_ne (ne_of_none e nC), upd_ne (fun z => n ps (Option.some.inj (e.symm.trans (by rw [z]; exact eB))))]
      exact e
    have eL : (ps ++ #[rawInt pos.line, rawInt pos.col, .ref c']).toList = ps.toList ++ [rawInt pos.line, rawInt pos.col, .ref c'] := by simp
    have T1 : Tabs T (upd (upd H B (.tbl (ps ++ #[rawInt pos.line, rawInt pos.col, .ref c']))) c' (CodeO c' (X.env.qual ++ "<lambda>"))) := fun p hp => by
      by_cases hb : p.1 = B
      · rw [hu p hp hb, hb]
        refine ⟨_, by rw [upd_ne (ne_of_none eB nC), upd_same], by rw [eL]; exact PySem.TriplesOk_snoc _ _ _ _ tri, fun p' cv hcv => ?_⟩
        rw [eL] at hcv
        rcases among_app _ tri hcv with z | z
        · obtain ⟨c0, e1, e2⟩ := among p' cv z
          exact ⟨c0, e1, hE _ _ e2 codeO_ne⟩
        · exact ⟨c', z, upd_same⟩
      · obtain ⟨qs, a1, a2, a3⟩ := hT p hp
        refine ⟨qs, by rw [upd_ne (ne_of_none a1 nC), upd_ne hb]; exact a1, a2, fun p' cv hcv => ?_⟩
        obtain ⟨c0, e1, e2⟩ := a3 p' cv hcv
        exact ⟨c0, e1, hE _ _ e2 codeO_ne⟩
    have nF := J.hok.fresh (Nat.le_refl _)
    have L := inv_lm (F := ⟨"<lambda>", X.env.qual ++ "<lambda>", params, [], scope, cloFrom X.env.cells scope.names [], c'⟩) (e := body) (t' := tk) (pm := (X.mg "__name__").getD .none) (ctv := ctv) J
    refine h g.objs.size c' _ _ L (fun b o e n => ?_) (T1.ext fun b o e => ?_) (I.hok.fresh (Nat.le_trans hge (Nat.le_of_lt hlt))) upd_same ?_
    · exact (upd_ne (ne_of_none (hE b o e n) nF)).trans (hE b o e n)
    · exact (upd_ne (ne_of_none e nF)).trans e
    · exact (upd_ne (Nat.ne_of_lt hlt)).trans upd_same
  | some cv =>
    obtain ⟨c', e, hco⟩ := among pos cv hc
    subst e
    refine PySem.W.kla_makeFunctionHit (mg := X.mg) (c := c) (P := B) (ps := ps) (closure_ok hfree) I.ok.glob (I.mod.glob.keeps I.bk) hcode (TB.code.keeps I.bk) eB' tri hc bm fun ctv g tk hx hsz => ?_
    have J : Inv X pins σ H { s with heap := g, toks := tk } := I.kept hx
    have nF : H g.objs.size = none := J.hok.fresh (Nat.le_refl _)
    have L := inv_lm (F := ⟨"<lambda>", X.env.qual ++ "<lambda>", params, [], scope, cloFrom X.env.cells scope.names [], c'⟩) (e := body) (t' := tk) (pm := (X.mg "__name__").getD .none) (ctv := ctv) J
    refine h g.objs.size c' _ _ L (fun b o e n => ?_) (hT.ext fun b o e => ?_) nF upd_same ?_
    · exact (upd_ne (ne_of_none e nF)).trans e
    · exact (upd_ne (ne_of_none e nF)).trans e
    · exact (upd_ne (ne_of_none hco nF)).trans hco
end
/-- «lambda ..: e»: the value is the new function -/
def tLamN (T : List (Addr × Str)) (mk : Addr → NF) (e : Expr) : TE := fun _ H Q => Tabs T H ∧ ∀ (f c' : Addr) (H1 : Hp), ExtN H H1 → Tabs T H1 → H f = none → H1 f = some (LmO f (mk c') e) → H1 c' = some (CodeO c' (mk c').qual) → Q (.ref f) H1
theorem pe_lamN {X : Cx} {T : List (Addr × Str)} {c B : Addr} {params : Arguments} {body : Expr} {scope : Scope} {pos : Pos} (TB : TabB X.base X.mg c B) (hcode : X.env.code = .ref c) (hm : (B, X.env.qual ++ "<lambda>") ∈ T) (hu : ∀ p ∈ T, p.1 = B → p.2 = X.env.qual ++ "<lambda>") (hdef : defaultsOf params X.env = ([], []))
    (hfree : ∀ y ∈ scope.names, y.2 = .free → X.env.scope.names.lookup y.1 = some .cell ∨ X.env.scope.names.lookup y.1 = some .free) :
    PE X (.Lambda params body scope pos) (tLamN T (fun c' => ⟨"<lambda>", X.env.qual ++ "<lambda>", params, [], scope, cloFrom X.env.cells scope.names [], c'⟩) body) := by
  refine ⟨fun pins s σ H Q I h => ?_⟩
  obtain ⟨hT, h⟩ := h
  refine lam_made I TB hcode hm hu hT hdef (fun y hy e => (hfree y hy e).elim (fun z => I.ok.has _ (.inl z)) fun z => I.ok.has _ (.inr z)) fun f c' H1 s' I1 eN T1 f0 f1 c1 => ?_
  exact ⟨.ref f, H1, I1, rfl, h f c' H1 eN T1 f0 f1 c1⟩
/-- «def n(..): ..» within a def, with tables of one name each -/
theorem tabsN_of {T : List (Addr × Str)} {H : Hp} (h : Tabs T H) : TabsN (T.map fun p => (p.1, fun _ _ => p.2)) H := fun p hp => by
  obtain ⟨q, mq, rfl⟩ := List.mem_map.mp hp
  exact .of (h q mq)
theorem tabs_of {T : List (Addr × Str)} {H : Hp} (h : TabsN (T.map fun p => (p.1, fun _ _ => p.2)) H) : Tabs T H := fun q mq => (h _ (List.mem_map.mpr ⟨q, mq, rfl⟩)).to
def tNdf (T : List (Addr × Str)) (i : Nat) (mk : Addr → NF) : TS := fun D σ H => Tabs T H ∧ ∀ (f c' : Addr) (H1 : Hp), ExtN H H1 → Tabs T H1 → H f = none → H1 f = some (FnO f (mk c')) → H1 c' = some (CodeO c' (mk c').qual) → D.nx (σ.set i (some (.ref f))) H1
theorem ps_ndf {X : Cx} {st : Stmt} {T : List (Addr × Str)} {c B : Addr} {name : Str} {pos : Pos} {i : Nat} (hst : st = .FunctionDef name (C8.fnArgs st) (C8.fnBody st) [] none [] (C8.fnScope st) none name pos) (TB : TabB X.base X.mg c B) (hcode : X.env.code = .ref c) (hm : (B, X.env.qual ++ name) ∈ T) (hu : ∀ p ∈ T, p.1 = B → p.2 = X.env.qual ++ name)
    (hfree : ∀ y ∈ (C8.fnScope st).names, y.2 = .free → X.env.scope.names.lookup y.1 = some .cell ∨ X.env.scope.names.lookup y.1 = some .free) (hd0 : (C8.fnArgs st).defaults = []) (hk0 : (C8.fnArgs st).kw_defaults = []) (ha : annTrees (C8.fnArgs st) none X.env = [])
    (hN : X.N.Nodup) (hi : X.N[i]? = some name) (hx : Loc X.env.scope name) (hf : X.fn name = true ∨ X.env.scope.names.lookup name = some .local) :
    PS X st (tNdf T i (NF.of st name (X.env.qual ++ name) (cloFrom X.env.cells (C8.fnScope st).names []))) := by
  have q := ps_ndefS (X := X) (st := st) (T := T.map fun p => (p.1, fun _ _ => p.2)) (nm := fun _ _ => X.env.qual ++ name) (c := c) (P := B) (name := name) (pos := pos) (i := i) hst TB hcode (List.mem_map.mpr ⟨_, hm, rfl⟩) rfl (fun p hp e => by
    obtain ⟨z, mz, rfl⟩ := List.mem_map.mp hp
    show (fun _ _ => z.2) = fun _ _ => _
    rw [hu z mz e]) hfree hd0 hk0 ha hN hi hx hf
  refine ⟨fun pins s σ H D I h => q.run pins s σ H D I ?_⟩
  obtain ⟨hT, h⟩ := h
  exact ⟨tabsN_of hT, fun f c' H1 eN T1 => h f c' H1 eN (tabs_of T1)⟩
end My

/-! ### defs that make functions; methods of one name with arguments -/
namespace My
open PySem PySem.Spec PyProof.Rows L2 LamX NdefX
theorem ClosOk.mono {P : Program} {w : World} {K : PySem.W.Frag} {mg : Str → Option Value} {base : Heap} {j k : Nat} {H0 : Hp} {f : Addr} {m : Nat} {sp : Sp} (h : ClosOk P w K mg base j H0 f m sp) (jk : j ≤ k) : ClosOk P w K mg base k H0 f m sp :=
  ⟨h.fn, fun H s A outer s' us vs Q hr => h.run H s A outer s' us vs Q (hr.mono jk)⟩
theorem clo_in {X : Cx} {scope : Scope} (ok : X.Ok) (hfree : ∀ y ∈ scope.names, y.2 = .free → X.env.scope.names.lookup y.1 = some .cell ∨ X.env.scope.names.lookup y.1 = some .free) (hf : ∀ y, X.fn y = true) : ∀ q ∈ cloFrom X.env.cells scope.names [], X.env.cells.lookup q.1 = some q.2 ∧ X.fn q.1 = true := fun q m => by
  refine ⟨?_, hf _⟩
  rcases cloFrom_mem (n := q.1) (c := q.2) m with h | ⟨h1, h2⟩
  · cases h
  · obtain ⟨c1, hc⟩ : ∃ c, X.env.cells.lookup q.1 = some c := (hfree _ h1 rfl).elim (fun z => ok.has _ (.inl z)) fun z => ok.has _ (.inr z)
    rw [h2, hc]
    rfl
/-- the text of a lambda within a def -/
def noE : Expr := .Constant .none 0 ⟨0, 0, 0, 0⟩
def lmT : Stmt → Expr
  | .Return (some e) _ => e
  | .Assign _ e _ => e
  | .Expr e _ => e
  | _ => noE
def lmD : Stmt → List Stmt
  | .For _ _ b _ _ => b
  | .If _ b _ _ => b
  | .While _ b _ _ => b
  | .Try b _ _ _ _ => b
  | _ => []
def lmX (i : Nat) : Expr → Expr
  | .Call _ as _ _ => as.getD i noE
  | .List as _ => as.getD i noE
  | .Tuple as _ _ => as.getD i noE
  | _ => noE
def lmA : Expr → Arguments
  | .Lambda a _ _ _ => a
  | _ => { posonlyargs := [], args := [], vararg := none, kwonlyargs := [], kw_defaults := [], kwarg := none, defaults := [] }
def lmB : Expr → Expr
  | .Lambda _ b _ _ => b
  | _ => noE
def lmS : Expr → Scope
  | .Lambda _ _ s _ => s
  | _ => { kind := .function, names := [], isGenerator := false, isCoroutine := false }
/-- the prefix of the names within a def -/
def qIn (x : String) : Str := Str.ofString x ++ ".<locals>."
section
variable {P : Program} {w : World} {K : PySem.W.Frag} {mg : Str → Option Value} {base : Heap}
/-- a def whose code object is known -/
theorem okC {x qual : Str} {st : Stmt} {f c : Addr} {fd : FuncData} {N ps : List Str} {k : Nat} {sp : Sp} (F : Fun K x qual st f fd) (hc : fd.code = .ref c) (S : FnScope N ps (defScope st)) (len : ∀ vs H Q E, sp vs H Q E → vs.length = ps.length)
    (body : ∀ (A : Around) (outer : List Env) (s : Shared) (H : Hp) (vs : List V) (Q : VK) (E : XK), Room k (A.deeper (envOfC qual (defScope st) s.heap.objs.size f (.ref c))) → sp vs H Q E →
      ∃ t, PSs (cxOf CX0 P w K mg base N qual (defScope st) f (.ref c) A outer s H E).nox (defBody st) t ∧ t { nx := fun _ H' => Q .non H', rt := Q } (start N vs) H) : FnOk P w K mg base CX0 (k + 1) f fd ps sp := by
  obtain ⟨oc, od, kV, doc, pm, an, cdv, ct, osl, rfl, lk, hcd⟩ := F.ex
  obtain rfl : cdv = .ref c := hc
  refine fn_of lk hcd S len fun A outer s H vs Q E hr hsp => ?_
  obtain ⟨t, h, q⟩ := body A outer s H vs Q E hr hsp
  exact ⟨t, h.nox, q⟩
theorem okNC {x qual : Str} {st : Stmt} {f c : Addr} {fd : FuncData} {N ps : List Str} {k : Nat} {sp : Sp} (F : Fun K x qual st f fd) (hc : fd.code = .ref c) (S : FnScope N ps (defScope st)) (len : ∀ vs H Q E, sp vs H Q E → vs.length = ps.length)
    (body : ∀ (A : Around) (outer : List Env) (s : Shared) (H : Hp) (vs : List V) (Q : VK) (E : XK), Room k (A.deeper (envOfC qual (defScope st) s.heap.objs.size f (.ref c))) → sp vs H Q E →
      ∃ t, PSs (cxOf (L2N.CX P w) P w K mg base N qual (defScope st) f (.ref c) A outer s H E) (defBody st) t ∧ t { nx := fun _ H' => Q .non H', rt := Q } (start N vs) H) : FnOk P w K mg base (L2N.CX P w) (k + 1) f fd ps sp := by
  obtain ⟨oc, od, kV, doc, pm, an, cdv, ct, osl, rfl, lk, hcd⟩ := F.ex
  obtain rfl : cdv = .ref c := hc
  exact fn_of lk hcd S len fun A outer s H vs Q E hr hsp => body A outer s H vs Q E hr hsp
end
/-! #### o.m(e, ..), the method of the class that o has -/
def tMethKA (bc : Kd → Addr) (okk : Kd → Bool) (m : Str) (sp : Kd → Sp) (ta : TE) (t : TA) : TE := fun σ H Q => ta σ H fun x H1 => ∃ a kd dx fs, x = .ref a ∧ okk kd = true ∧ H1 a = some (.ins (bc kd) dx fs) ∧ fs.lookup m = none ∧ t σ H1 fun vs H2 => sp kd (x :: vs) H2 Q E0
section
variable {X : Cx} {k : Nat} {bc : Kd → Addr} {okk : Kd → Bool} {sp : Kd → Sp} {m : Str} {pos apos : Pos} {o e : Expr} {es : List Expr} {ta : TE} {t : TA}
theorem pe_methKA {pl : Sem Bool} (he : PE X o ta) (A : ∀ kd, okk kd = true → HeldM X.prog X.w X.K X.mg X.base k (bc kd) m (sp kd)) (hr : Room k X.A) (ha : PA X (e :: es) t)
    (z1 : starEach (e :: es) X.env = (false, eval e X.env) :: starEach es X.env := by rfl) (z2 : (backTo pos (starEach es X.env)).any (·.1) = false := by rfl)
    (ht : eval (.Call (.Attribute o m apos) (e :: es) [] pos) X.env = (do
      let ov ← eval o X.env
      standAt apos.atName
      let (f, first) ← holding [ov] (getMethod ov m pl)
      callWith pos f first (backTo pos (starEach (e :: es) X.env)) (backToKw pos (keywordEach [] X.env))) := by rfl) :
    PE X (.Call (.Attribute o m apos) (e :: es) [] pos) (tMethKA bc okk m sp ta t) := by
  refine ⟨fun pins s σ H Q I h => ?_⟩
  refine PySem.W.methodCall_KW (pl := pl) (thn (he.run pins s σ H _ I h) fun u s1 ⟨x, H1, I1, rx, a, kd, dx, fs, ex, hk, ea, l, q⟩ => ?_) ht
  subst ex
  obtain rfl : u = Value.ref a := rx
  obtain ⟨f, fd, ps, c, hm, F, hb⟩ := (A kd hk).ex
  refine getmeth_ok I1 ea c hm l ?_
  refine PySem.W.callWith_K (first := [.ref a]) (h₀ := X.base) I.ok.mod.kin hm.kp (thn (ha.run pos pins s1 σ H1 _ I1 q) fun us s2 ⟨vs, H2, I2, r, q2⟩ => ⟨I2.kIn, ?_⟩) z1 z2
  refine run_fn (us := .ref a :: us) (vs := .ref a :: vs) (dvs := []) F hr hb .nil pass0 I2 (.cons rfl r) ?_
  rw [List.append_nil]
  exact q2
end
end My

/-! ### a def within a def that has cells of its own besides those it captured -/
namespace My
open PySem PySem.Spec PyProof.Rows L2 LamX NdefX
theorem cells_app : ∀ (names : List (Str × NameKind)) (n : Nat) (acc : List (Str × Addr)), cellsFrom n names acc = cellsFrom n names [] ++ acc
  | [], n, acc => rfl
  | (x, k) :: r, n, acc => by
    unfold cellsFrom
    split
    · rw [cells_app r (n + 1) ((x, n) :: acc), cells_app r (n + 1) [(x, n)], List.append_assoc]; rfl
    · exact cells_app r n acc
theorem own_kind : ∀ {names : List (Str × NameKind)} {n : Nat} {x : Str} {c : Addr}, (x, c) ∈ cellsFrom n names [] → (x, NameKind.cell) ∈ names
  | (y, k) :: r, n, x, c, m => by
    unfold cellsFrom at m
    split at m
    · rename_i hk
      rw [cells_app] at m
      rcases List.mem_append.mp m with m | m
      · exact List.mem_cons_of_mem _ (own_kind m)
      · obtain ⟨rfl, rfl⟩ := Prod.mk.inj (List.mem_singleton.mp m)
        have : k = .cell := by simpa using hk
        rw [this]; exact List.mem_cons_self
    · exact List.mem_cons_of_mem _ (own_kind m)
section
variable {M : Model} {A : Around} {E : Value → Shared → Prop} {s0 s : Shared} {m cm : Str → Option Value} {env : Env} {os : List (Str × Addr)}
theorem storeL_own {n : Str} {v : Value} {Q : Unit → Shared → Prop} (x : InCallC s0 env.locals m os cm s) (hk : env.scope.kind = .function) (hl : env.kindOf n = some .local)
    (h : ∀ s', InCallC s0 env.locals (fun y => if y = n then some v else m y) os cm s' → Q () s') : wpAny M A (storeName env n v) Q E s := by
  refine wpAny_storeName_local hl x.toInCall.ns (fun h' hn' hs' => h _ ⟨⟨?_, hn', fun b o e => ?_, x.toInCall.fresh⟩, fun k c hc => ?_, x.apart, x.above⟩) (by rw [hk]; rfl)
  · obtain ⟨g, tk, rfl⟩ := x.toInCall.same
    exact ⟨h', _, rfl⟩
  · exact hs'.extBut b o (Nat.ne_of_lt (Nat.lt_of_lt_of_le (Heap.lt_size e) x.toInCall.fresh)) (x.toInCall.keep b o e)
  · exact (x.cell k c hc).sameBut hs' (Nat.ne_of_gt (x.above k c (PySem.mem_of_lookup hc)))
theorem storeC_own {n : Str} {c : Addr} {v : Value} {Q : Unit → Shared → Prop} (x : InCallC s0 env.locals m os cm s) (hk : env.scope.kind = .function) (hl : env.kindOf n = some .cell) (ho : os.lookup n = some c) (hc : env.cells.lookup n = some c)
    (h : ∀ s', InCallC s0 env.locals m os (fun y => if y = n then some v else cm y) s' → Q () s') : wpAny M A (storeName env n v) Q E s := by
  have lt := x.above n c (PySem.mem_of_lookup ho)
  refine wpAny_storeName_cell hk hl hc (x.cell n c ho) fun h' hc' hs' => h _ ⟨⟨?_, x.toInCall.ns.sameBut hs' (Nat.ne_of_lt lt), fun b o e => ?_, x.toInCall.fresh⟩, fun k c' hk' => ?_, x.apart, x.above⟩
  · obtain ⟨g, tk, rfl⟩ := x.toInCall.same
    exact ⟨h', _, rfl⟩
  · exact hs'.extBut b o (Nat.ne_of_lt (Nat.lt_trans (Nat.lt_of_lt_of_le (Heap.lt_size e) x.toInCall.fresh) lt)) (x.toInCall.keep b o e)
  · by_cases e : k = n
    · subst e
      rw [ho] at hk'; cases hk'
      simpa using hc'
    · rw [if_neg e]
      exact (x.cell k c' hk').sameBut hs' fun z => e (name_of_addr x.apart (PySem.mem_of_lookup hk') (z ▸ PySem.mem_of_lookup ho))
theorem bind_own (f : Str × Value → PUnit → Sem (ForInStep PUnit)) (hf : ∀ n v u, f (n, v) u = (do storeName env n v; pure (.yield ⟨⟩))) (hk : env.scope.kind = .function) :
    ∀ (bs : List (Str × Value)) (m cm : Str → Option Value) (s : Shared) (Q : PUnit → Shared → Prop), InCallC s0 env.locals m os cm s →
      (∀ x ∈ bs, env.kindOf x.1 = some .local ∨ (env.kindOf x.1 = some .cell ∧ ∃ c, os.lookup x.1 = some c ∧ env.cells.lookup x.1 = some c)) →
      (∀ s', InCallC s0 env.locals (bindL env.kindOf bs m) os (bindC env.kindOf bs cm) s' → Q ⟨⟩ s') → wpAny M A (forIn bs ⟨⟩ f) Q E s
  | [], m, cm, s, Q, x, _, h => by rw [List.forIn_nil]; exact wpAny_pure (h s x)
  | (n, v) :: r, m, cm, s, Q, x, kd, h => by
    rw [List.forIn_cons, hf]
    have kr : ∀ y ∈ r, env.kindOf y.1 = some .local ∨ (env.kindOf y.1 = some .cell ∧ ∃ c, os.lookup y.1 = some c ∧ env.cells.lookup y.1 = some c) := fun y hy => kd y (List.mem_cons_of_mem _ hy)
    rcases kd (n, v) List.mem_cons_self with hl | ⟨hl, c, ho, hc⟩
    · refine wpAny_bind (wpAny_bind (storeL_own x hk hl fun s' x' => wpAny_pure (bind_own f hf hk r _ _ s' Q x' kr fun s'' x'' => h s'' ?_)))
      unfold bindL bindC; rw [if_pos hl, if_pos hl]; exact x''
    · have nl : ¬ env.kindOf n = some .local := by rw [hl]; decide
      refine wpAny_bind (wpAny_bind (storeC_own x hk hl ho hc fun s' x' => wpAny_pure (bind_own f hf hk r _ _ s' Q x' kr fun s'' x'' => h s'' ?_)))
      unfold bindL bindC; rw [if_neg nl, if_neg nl]; exact x''
end
/-- its names: the parameters, the captured ones, its own -/
structure NScC (N ps fr : List Str) (sc : Scope) : Prop where
  kind : sc.kind = .function
  co : sc.isCoroutine = false
  gen : sc.isGenerator = false
  nd : N.Nodup
  nn : (sc.names.map (·.1)).Nodup
  pre : N.take (ps.length + fr.length) = ps ++ fr
  par : ∀ x ∈ ps, sc.names.lookup x = some .local ∨ sc.names.lookup x = some .cell
  free : ∀ y ∈ sc.names, y.2 = .free → y.1 ∈ fr
  frk : ∀ x ∈ fr, sc.names.lookup x = some .free
def nccB (N ps fr : List Str) (sc : Scope) : Bool :=
  decide (sc.kind = .function) && !sc.isCoroutine && !sc.isGenerator && decide N.Nodup && decide (sc.names.map (·.1)).Nodup && decide (N.take (ps.length + fr.length) = ps ++ fr) && ps.all (fun x => decide (sc.names.lookup x = some .local) || decide (sc.names.lookup x = some .cell)) && sc.names.all (fun y => !decide (y.2 = .free) || decide (y.1 ∈ fr)) && fr.all (fun x => decide (sc.names.lookup x = some .free))
theorem ncc_by {N ps fr : List Str} {sc : Scope} (h : nccB N ps fr sc = true) : NScC N ps fr sc := by
  unfold nccB at h
  simp only [Bool.and_eq_true, Bool.not_eq_true', decide_eq_true_eq, List.all_eq_true, Bool.or_eq_true, decide_eq_false_iff_not] at h
  obtain ⟨⟨⟨⟨⟨⟨⟨⟨h1, h2⟩, h3⟩, h4⟩, h5⟩, h6⟩, h7⟩, h8⟩, h9⟩ := h
  exact ⟨h1, h2, h3, h4, h5, h6, h7, fun y hy e => (h8 y hy).elim (fun z => absurd e z) id, h9⟩
abbrev envD (F : NF) (f L : Addr) : Env := PySem.W.envX F.qual F.scope L f (.ref F.c) (cellsFrom (L + 1) F.scope.names F.cl)
def dcx (CX : CXT) (P : Program) (w : World) (K : PySem.W.Frag) (mg : Str → Option Value) (base : Heap) (N : List Str) (F : NF) (f : Addr) (A : Around) (outer : List Env) (s : Shared) (H : Hp) (E : XK) : Cx where
  prog := P
  w := w
  K := K
  mg := mg
  base := base
  A := A.deeper (envD F f s.heap.objs.size)
  N := N
  s_0 := s
  H_0 := H
  env := envD F f s.heap.objs.size
  outer := outer
  stack := envD F f s.heap.objs.size :: outer
  ex := []
  calm := true
  fn := fun x => F.scope.names.lookup x == some .cell
  pn := []
  xe := fun e s' => wpAny (model P w) (A.deeper (envD F f s.heap.objs.size)) (leaving (envD F f s.heap.objs.size) e) (fun _ s'' => CX outer H s E e s'') (fun e' s'' => CX outer H s E e' s'') s'
section
variable {CX : CXT} {P : Program} {w : World} {K : PySem.W.Frag} {mg : Str → Option Value} {base : Heap} {N ps fr : List Str} {F : NF} {f : Addr} {A : Around} {outer : List Env} {s s1 : Shared} {H : Hp} {E : XK} {us : List Value} {vs : List V} {ws : List (Option V)}
theorem lk_app {l r : List (Str × Addr)} {x : Str} : (l ++ r).lookup x = (l.lookup x).or (r.lookup x) := by
  induction l with
  | nil => rfl
  | cons a l ih =>
    obtain ⟨y, c⟩ := a
    rw [List.cons_append, List.lookup_cons, List.lookup_cons]
    cases x == y with
    | true => rfl
    | false => exact ih
theorem inv_startD (S : NScC N ps fr F.scope) (hd : A.handled = none) (e0 : Env0 P w K mg base A outer s H) (hl : vs.length = ps.length) (r : Vals vs us) (C : CellsAt F.cl fr ws s.heap H)
    (x : InCallC s s.heap.objs.size (bindL (envD F f s.heap.objs.size).kindOf (ps.zip us) fun _ => none) (cellsFrom (s.heap.objs.size + 1) F.scope.names []) (bindC (envD F f s.heap.objs.size).kindOf (ps.zip us) fun _ => none) s1) :
    Inv (dcx CX P w K mg base N F f A outer s H E) [] (startF N vs ws) H s1 := by
  have hpl : ps.length + fr.length ≤ N.length := by
    have q := congrArg List.length S.pre
    rw [List.length_take, List.length_append] at q
    omega
  obtain ⟨h1, tk, rfl, kp⟩ := x.done
  have noA : ∀ b : Addr, b ∉ (dcx CX P w K mg base N F f A outer s H E).ex := fun b z => absurd (show b ∈ ([] : List Addr) from z) (by simp)
  have eL : ∀ y : Str, (dcx CX P w K mg base N F f A outer s H E).env.cells.lookup y = ((cellsFrom (s.heap.objs.size + 1) F.scope.names []).lookup y).or (F.cl.lookup y) := fun y => by
    show (cellsFrom (s.heap.objs.size + 1) F.scope.names F.cl).lookup y = _
    rw [cells_app, lk_app]
  have oldC : ∀ {y : Str} {c : Addr}, F.cl.lookup y = some c → c < s.heap.objs.size := fun {y c} e => by
    obtain ⟨_, v, o, ho, _⟩ := C.all y c e
    exact Heap.lt_size ho
  have newC : ∀ {y : Str} {c : Addr}, (cellsFrom (s.heap.objs.size + 1) F.scope.names []).lookup y = some c → s.heap.objs.size < c := fun {y c} e => x.above y c (PySem.mem_of_lookup e)
  have either : ∀ {y : Str} {c : Addr}, (dcx CX P w K mg base N F f A outer s H E).env.cells.lookup y = some c → (cellsFrom (s.heap.objs.size + 1) F.scope.names []).lookup y = some c ∨ F.cl.lookup y = some c := fun {y c} e => by
    rw [eL] at e
    cases q : (cellsFrom (s.heap.objs.size + 1) F.scope.names []).lookup y with
    | none => rw [q] at e; exact .inr e
    | some d => rw [q] at e; exact .inl e
  have nodK : ∀ {l : List (Str × NameKind)} {y : Str} {a b : NameKind}, (l.map (·.1)).Nodup → l.lookup y = some a → (y, b) ∈ l → b = a := fun {l y a b} nd => by
    induction l with
    | nil => intro _ m; cases m
    | cons z l ih =>
      intro e m
      obtain ⟨n, k⟩ := z
      rw [List.map_cons, List.nodup_cons] at nd
      rw [List.lookup_cons] at e
      by_cases hn : y = n
      · subst hn
        rw [beq_self_eq_true] at e
        cases e
        rcases List.mem_cons.mp m with q | q
        · cases q; rfl
        · exact absurd (List.mem_map.mpr ⟨_, q, rfl⟩) nd.1
      · rw [show (y == n) = false from beq_eq_false_iff_ne.mpr hn] at e
        rcases List.mem_cons.mp m with q | q
        · cases q; exact absurd rfl hn
        · exact ih nd.2 e q
  have frN : ∀ {y : Str}, F.scope.names.lookup y = some .free → (cellsFrom (s.heap.objs.size + 1) F.scope.names []).lookup y = none := fun {y} hy => by
    cases q : (cellsFrom (s.heap.objs.size + 1) F.scope.names []).lookup y with
    | none => rfl
    | some d => have := nodK S.nn hy (own_kind (PySem.mem_of_lookup q)); cases this
  have cellK : ∀ {c : Addr} {v : Option Value}, s.heap.IsCell c v → h1.IsCell c v := fun {c v} ⟨o, ho, hd⟩ => ⟨o, kp _ _ ho, hd⟩
  have hasF : ∀ {y : Str}, F.scope.names.lookup y = some .free → ∃ c, F.cl.lookup y = some c ∧ (dcx CX P w K mg base N F f A outer s H E).env.cells.lookup y = some c := fun {y} hy => by
    obtain ⟨i, hi⟩ := List.mem_iff_getElem?.mp (S.free _ (PySem.mem_of_lookup hy) rfl)
    obtain ⟨c, hc, _⟩ := C.has i y hi
    exact ⟨c, hc, by rw [eL, frN hy]; exact hc⟩
  refine ⟨⟨e0.mod, S.kind, rfl, rfl, Nat.le_refl _, fun y z c e1 e2 => ?_, fun y hy => ?_, fun y c hc e => ?_, fun _ => hd, Around.frames_deeper e0.frames, .inr ⟨rfl, rfl⟩, fun b z => absurd z (noA b), e0.bs, e0.bsz, fun b _ _ => noA b, fun b z => absurd z (noA b), e0.funs, e0.frf⟩,
    rfl, e0.bare, Un.kept kp, ⟨_, x.toInCall.ns, fun i y v e1 e2 e3 => ?_⟩, fun y c e => ?_, e0.hok.fresh (Nat.le_refl _), fun y c e => ?_, fun p hp => absurd (show p ∈ ([] : List (Addr × Obj)) from hp) (by simp), e0.hok.kept kp, ?_⟩
  · rcases either e1 with e1 | e1 <;> rcases either e2 with e2 | e2
    · exact name_of_addr x.apart (PySem.mem_of_lookup e1) (PySem.mem_of_lookup e2)
    · exact absurd (Nat.lt_trans (newC e1) (oldC e2)) (Nat.lt_irrefl _)
    · exact absurd (Nat.lt_trans (newC e2) (oldC e1)) (Nat.lt_irrefl _)
    · exact C.inj y z c e1 e2
  · have hy : F.scope.names.lookup y = some .cell ∨ F.scope.names.lookup y = some .free := hy
    rcases hy with hy | hy
    · obtain ⟨c, hc⟩ := cell_has (n := s.heap.objs.size + 1) hy
      exact ⟨c, by rw [eL, hc]; rfl⟩
    · obtain ⟨c, _, hc⟩ := hasF hy
      exact ⟨c, hc⟩
  · have hc : (F.scope.names.lookup y == some NameKind.cell) = true := hc
    have hc : F.scope.names.lookup y = some .cell := by simpa using hc
    obtain ⟨d, hd⟩ := cell_has (n := s.heap.objs.size + 1) hc
    have q : (dcx CX P w K mg base N F f A outer s H E).env.cells.lookup y = some d := by rw [eL, hd]; rfl
    have e : (dcx CX P w K mg base N F f A outer s H E).env.cells.lookup y = some c := e
    rw [q] at e
    cases e
    exact Nat.le_of_lt (newC hd)
  · have e1 : N[i]? = some y := e1
    have clen := C.len
    unfold startF at e2
    by_cases hi : i < ps.length
    · have hq : (ps ++ fr)[i]? = some y := by
        rw [← S.pre, List.getElem?_take_of_lt (by omega)]
        exact e1
      rw [List.getElem?_append_left hi] at hq
      rw [List.getElem?_append_left (by rw [List.length_map]; omega), List.getElem?_map] at e2
      have ha : vs[i]? = some v := by
        cases e : vs[i]? with
        | none => rw [e] at e2; cases e2
        | some a => rw [e] at e2; cases e2; rfl
      obtain ⟨u, hu, rv⟩ := r.get ha
      have ndP : ps.Nodup := by
        have q := S.nd.sublist (List.take_sublist (ps.length + fr.length) N)
        rw [S.pre] at q
        exact (List.nodup_append.mp q).1
      refine ⟨u, rv, ?_⟩
      rcases S.par y (List.mem_of_getElem? hq) with k | k
      · exact .inl ⟨k, bindL_get ndP hq hu k⟩
      · obtain ⟨c, e⟩ := cell_has (n := s.heap.objs.size + 1) k
        refine .inr ⟨.inl k, c, by rw [eL, e]; rfl, ?_⟩
        have q := x.cell y c e
        rw [bindC_get ndP hq hu (by show F.scope.names.lookup y ≠ _; rw [k]; decide)] at q
        exact q
    · rw [List.getElem?_append_right (by rw [List.length_map]; omega), List.length_map] at e2
      by_cases h2 : i < ps.length + fr.length
      · have hq : (ps ++ fr)[i]? = some y := by
          rw [← S.pre, List.getElem?_take_of_lt (by omega)]
          exact e1
        rw [List.getElem?_append_right (by omega)] at hq
        rw [List.getElem?_append_left (by omega), hl] at e2
        have fy := S.frk y (List.mem_of_getElem? hq)
        obtain ⟨c, hc, hv⟩ := C.has (i - ps.length) y hq
        obtain ⟨u, ru, hu⟩ := hv v e2
        exact ⟨u, ru, .inr ⟨.inr fy, c, by rw [eL, frN fy]; exact hc, cellK hu⟩⟩
      · rw [List.getElem?_append_right (by omega), List.getElem?_replicate] at e2
        split at e2 <;> cases e2
  · rcases either e with e | e
    · exact ⟨_, x.cell y c e⟩
    · obtain ⟨_, v, z⟩ := C.all y c e
      exact ⟨v, cellK z⟩
  · rcases either e with e | e
    · exact e0.hok.fresh (Nat.le_of_lt (newC e))
    · exact (C.all y c e).1
  · have clen := C.len
    unfold startF
    show _ = N.length
    rw [List.length_append, List.length_append, List.length_map, List.length_replicate]
    omega
/-- a def within a def, by its body -/
theorem CRun.dfn {k : Nat} {sp : List (Option V) → Sp} (S : NScC N ps fr F.scope) (hb : ∀ (doc pm ctv : Value) (us : List Value), us.length = ps.length → bindArgs (F.fd doc pm ctv) ⟨us, []⟩ = pure (ps.zip us))
    (body : ∀ (A : Around) (outer : List Env) (s : Shared) (H : Hp) (vs : List V) (ws : List (Option V)) (Q : VK), Room k (A.deeper (envD F f s.heap.objs.size)) → ws.length = fr.length → vs.length = ps.length → sp ws vs H Q E0 →
      ∃ t, PSs (dcx CX0 P w K mg base N F f A outer s H E0).nox F.body t ∧ t { nx := fun _ H' => Q .non H', rt := Q } (startF N vs ws) H) : CRun P w K mg base (k + 1) f (FnO f F) F.c F.qual F.cl ps fr sp := by
  refine ⟨fun A outer s H us vs ws Q hr e0 hf hc C r hl h => ?_⟩
  have lim : s.heap.NoLimit := e0.mod.nolimit.keeps fun b o e => (e0.bs b o e).1
  obtain ⟨od, sl, doc, pm, ctv, ho⟩ := fnO_at e0.hok hf
  have un : us.length = ps.length := by rw [← r.length]; exact hl
  have kd : ∀ y ∈ ps.zip us, (envD F f s.heap.objs.size).kindOf y.1 = some .local ∨ ((envD F f s.heap.objs.size).kindOf y.1 = some .cell ∧ ∃ c, (cellsFrom (s.heap.objs.size + 1) F.scope.names []).lookup y.1 = some c ∧ (envD F f s.heap.objs.size).cells.lookup y.1 = some c) := fun ⟨n, v⟩ hy => by
    rcases S.par n (List.of_mem_zip hy).1 with q | q
    · exact .inl q
    · obtain ⟨c, hc⟩ := cell_has (n := s.heap.objs.size + 1) q
      refine .inr ⟨q, c, hc, ?_⟩
      show (cellsFrom (s.heap.objs.size + 1) F.scope.names F.cl).lookup n = some c
      rw [cells_app, lk_app, hc]; rfl
  refine codeAny_call_function hr.depth ho rfl S.co S.gen rfl (codeO_at e0.hok hc) ?_
  rw [hb doc pm ctv us un]
  refine wpAny_pure ?_
  simp only [newFunctionEnv, Option.isSome_none, Bool.false_eq_true, if_false]
  refine wpAny_bind (wpAny_alloc ?_)
  refine wpAny_bind (wpAny_layCells _ (fun name kind cells => by cases hkc : kind == NameKind.cell <;> simp [hkc]) _ _ _ _ ?_)
  have okc := cellsFrom_ok F.scope.names (s.heap.push { cls := .type "frame", data := .dict #[] }) (s.heap.objs.size + 1) [] ⟨fun _ _ hm => (nomatch hm), List.Pairwise.nil⟩ (by rw [Heap.size_push]; exact Nat.le_refl _)
  rw [Heap.size_push] at okc
  rw [show ({ s with heap := s.heap.push { cls := .type "frame", data := .dict #[] } } : Shared).heap.objs.size = s.heap.objs.size + 1 from Heap.size_push ..]
  refine wpAny_bind (bind_own (s0 := s) (os := cellsFrom (s.heap.objs.size + 1) F.scope.names []) (env := envD F f s.heap.objs.size) _ (fun _ _ _ => rfl) S.kind (ps.zip us) (fun _ => none) (fun _ => none) _ _
    ⟨⟨⟨_, _, rfl⟩, (Heap.Ns.new s.heap (.type "frame")).keeps (pushCells_keeps _ _), fun b o e => pushCells_keeps _ _ b o (Heap.get?_push_of_some _ e), Nat.le_refl _⟩,
      fun n c hc => (okc.empty n c (PySem.mem_of_lookup hc)).1, okc.apart, fun n c hm => (okc.empty n c hm).2⟩ kd fun s' x => wpAny_pure ?_)
  refine ⟨lim.keeps x.toInCall.keep, codeAny_func ?_⟩
  obtain ⟨t, ht, hq⟩ := body A outer s H vs ws Q (hr.deeper _) C.len hl h
  have I : Inv (dcx CX0 P w K mg base N F f A outer s H E0) [] (startF N vs ws) H s' := inv_startD S hr.hd e0 hl r C x
  refine wpAny_mono (ht.nox.run [] s' (startF N vs ws) H _ I hq) (fun fl s2 hs => ?_) fun e s2 hs => hs
  cases fl with
  | ret u =>
    obtain ⟨v, σ', H', J, rv, q⟩ := hs
    exact ⟨v, H', J.os, J.bare, J.base, J.hok, rv, q⟩
  | next =>
    obtain ⟨σ', H', J, q⟩ := hs
    exact ⟨V.non, H', J.os, J.bare, J.base, J.hok, rfl, q⟩
  | brk =>
    obtain ⟨_, _, _, q⟩ := hs
    exact False.elim q
  | cont =>
    obtain ⟨_, _, _, q⟩ := hs
    exact False.elim q
end
end My

/-! ### functions handed on that may raise -/
namespace My
open PySem PySem.Spec PyProof.Rows L2 LamX NdefX
section
variable {P : Program} {w : World} {K : PySem.W.Frag} {mg : Str → Option Value} {base : Heap} {cs : List Addr} {H : Hp}
/-- an exception out of a call that could reach the cells: they lie still again -/
theorem cx_re {outer : List Env} {s s' : Shared} {E : XK} {u : Value} (ok0 : HOk P w H s.heap) (f : ∀ c ∈ cs, ∃ o, H c = some (fz o)) (nf : ∀ c ∈ cs, c ∉ frs outer)
    (q : L2N.CX P w outer (dropC cs H) s (fun cls d H' => (∀ c ∈ cs, H' c = none) → E cls d (reC cs H H')) u s') : L2N.CX P w outer H s E u s' := by
  obtain ⟨a, B, G, cls, d, rfl, fly, ok, ub, na, wo, ge, e⟩ := q
  have st : ∀ c ∈ cs, ∃ o, s.heap.get? c = some o ∧ H c = some (fz o) := fun c m => by
    obtain ⟨o, z⟩ := f c m
    exact ⟨o, (ok0 c _ z).1, z⟩
  have gone : ∀ c ∈ cs, G c = none := fun c m => by
    obtain ⟨o, eo, _⟩ := st c m
    exact ub.free c o eo (dropC_in m)
  have inB : ∀ c ∈ cs, ∀ o, s.heap.get? c = some o → B.get? c = some o := fun c m o eo => ub.keep c o eo (dropC_in m) (nf c m)
  have out : ∀ {b : Addr} {x : HO}, H b = some x → (∀ o, x ≠ fz o) → b ∉ cs := fun {b x} z n m => by
    obtain ⟨o, _, e2⟩ := st b m
    rw [e2] at z
    exact n o (Option.some.inj z).symm
  have outN : ∀ {b : Addr}, H b = none → b ∉ cs := fun {b} z m => by
    obtain ⟨o, _, e2⟩ := st b m
    rw [e2] at z
    cases z
  have nc : a ∉ cs := fun m => by
    obtain ⟨o, eo, _⟩ := st a m
    have := inB a m o eo
    rw [fly.2.1] at this
    cases this
  refine ⟨a, B, reC cs H G, cls, d, rfl, fly, fun b x z => ?_, ⟨?_, ub.slot, ?_, ub.there, ?_, ?_, ?_⟩, by rw [reC_out nc]; exact na, wo, ge, e gone⟩
  · by_cases m : b ∈ cs
    · rw [reC_in m] at z
      obtain ⟨o, eo, zo⟩ := st b m
      rw [zo] at z
      cases z
      have e' := inB b m o eo
      exact ⟨e', trivial, ⟨o, e'⟩, fun _ _ _ _ => trivial⟩
    · rw [reC_out m] at z
      have nC : ∀ {d : Addr} {y : HO}, G d = some y → d ∉ cs := fun {d y} q md => by rw [gone d md] at q; cases q
      refine (ok b x z).stay (fun _ _ _ q => q) (fun c q => ?_) fun c xs q => ?_
      · rw [reC_out (nC q)]; exact q
      · rw [reC_out (nC q)]; exact q
  · exact fun b o eb nb hb => ub.keep b o eb (by rw [dropC_out (outN nb)]; exact nb) hb
  · intro b o eb nb
    rw [reC_out (outN nb)]
    exact ub.free b o eb (by rw [dropC_out (outN nb)]; exact nb)
  · intro b xs z
    have m := out z fun o e => by cases e
    rw [reC_out m]
    exact ub.tups b xs (by rw [dropC_out m]; exact z)
  · intro b o x z
    by_cases m : b ∈ cs
    · rw [reC_in m]; exact z
    · rw [reC_out m]
      exact ub.frzs b o x (by rw [dropC_out m]; exact z)
  · intro b ps z
    have m := out z fun o e => by cases e
    obtain ⟨more, q⟩ := ub.tbls b ps (by rw [dropC_out m]; exact z)
    exact ⟨more, by rw [reC_out m]; exact q⟩
end
/-- a function at f that may be handed on, by what its call does; it may raise -/
structure ClosX (P : Program) (w : World) (K : PySem.W.Frag) (mg : Str → Option Value) (base : Heap) (k : Nat) (H0 : Hp) (f : Addr) (m : Nat) (sp : Sp) : Prop where
  fn : IsFn H0 f
  run : ∀ H, Same H0 H → ∀ (A : Around) (outer : List Env) (s : Shared) (us : List Value) (vs : List V) (Q : VK) (E : XK), Room k A → Env0 P w K mg base A outer s H → Vals vs us → vs.length = m → sp vs H Q E → codeAny (model P w) A (.call (.ref f) ⟨us, []⟩) (CR (L2N.CX P w) outer P w H s Q E) s
theorem ClosX.same {P : Program} {w : World} {K : PySem.W.Frag} {mg : Str → Option Value} {base : Heap} {k : Nat} {H0 H1 : Hp} {f : Addr} {m : Nat} {sp : Sp} (h : ClosX P w K mg base k H0 f m sp) (s : Same H0 H1) : ClosX P w K mg base k H1 f m sp :=
  ⟨h.fn.same s, fun H t => h.run H (s.trans t)⟩
/-- the reading of x() in a try's body -/
def tCallX0 (P : Program) (w : World) (K : PySem.W.Frag) (mg : Str → Option Value) (base : Heap) (k i : Nat) (E : L2.St → XK) : TE := fun σ H Q => ∃ f sp, σ[i]? = some (some (.ref f)) ∧ ClosX P w K mg base k H f 0 sp ∧ sp [] H Q (E σ)
section
variable {X : Cx} {k i : Nat} {x : Str} {p pos : Pos} {E : L2.St → XK}
theorem pe_callX0 (hr : Room k X.A) (hN : X.N[i]? = some x) (hv : Vis X.env.scope x) (hx : ∀ σ, PassesAt (L2N.CX X.prog X.w) X σ (E σ)) (z1 : (x == ("__debug__" : Str)) = false := by decide) (z0 : (x == ("__classdict__" : Str)) = false := by decide) :
    PE X (.Call (.Name x p) [] [] pos) (tCallX0 X.prog X.w X.K X.mg X.base k i E) := by
  refine ⟨fun pins s σ H Q I h => ?_⟩
  obtain ⟨f, sp, hs, hc, q⟩ := h
  refine wpAny_Call_Name_kw (thn ((pe_var (pos := p) hN hv z1 z0).run pins s σ H (fun v H1 => v = .ref f ∧ H1 = H) I ⟨.ref f, hs, rfl, rfl⟩) fun u s1 ⟨v, H1, I1, r1, q1⟩ => ?_)
  obtain ⟨ev, eH⟩ := q1
  subst ev
  rw [eH] at I1
  obtain rfl : u = Value.ref f := r1
  refine PySem.W.callWith_F0 (first := []) (hc.fn.at I1.hok) ?_
  refine wpAny_call (codeAny_mono (hc.run H (Same.refl _) X.A X.stack s1 [] [] Q (E σ) hr I1.env0 .nil rfl q) fun r s' hq => ?_)
  cases r with
  | error e => exact hx σ pins H s1 e s' I1 hq
  | ok fl =>
    cases fl with
    | ret u => exact I1.after hq
    | next => exact False.elim hq
    | brk => exact False.elim hq
    | cont => exact False.elim hq
end
theorem pe_callX0K {X : Cx} {P : Program} {w : World} {K : PySem.W.Frag} {mg : Str → Option Value} {base : Heap} {k i : Nat} {x : Str} {p pos : Pos} {E : L2.St → XK} (e1 : X.prog = P) (e2 : X.w = w) (e3 : X.K = K) (e4 : X.mg = mg) (e5 : X.base = base) (hr : Room k X.A) (hN : X.N[i]? = some x) (hv : Vis X.env.scope x)
    (hx : ∀ σ, PassesAt (L2N.CX X.prog X.w) X σ (E σ)) (z1 : (x == ("__debug__" : Str)) = false := by decide) (z0 : (x == ("__classdict__" : Str)) = false := by decide) : PE X (.Call (.Name x p) [] [] pos) (tCallX0 P w K mg base k i E) := by
  subst e1 e2 e3 e4 e5
  exact pe_callX0 hr hN hv hx z1 z0
/-- as CRun, what raises told too -/
structure CRunX (P : Program) (w : World) (K : PySem.W.Frag) (mg : Str → Option Value) (base : Heap) (k : Nat) (f : Addr) (ob : HO) (c : Addr) (q : Str) (cl : List (Str × Addr)) (ps fr : List Str) (sp : List (Option V) → Sp) : Prop where
  run : ∀ (A : Around) (outer : List Env) (s : Shared) (H : Hp) (us : List Value) (vs : List V) (ws : List (Option V)) (Q : VK) (E : XK), Room k A → Env0 P w K mg base A outer s H → H f = some ob → H c = some (CodeO c q) → CellsAt cl fr ws s.heap H → Vals vs us → vs.length = ps.length → sp ws vs H Q E →
    codeAny (model P w) A (.call (.ref f) ⟨us, []⟩) (CR (L2N.CX P w) outer P w H s Q E) s
theorem CRunX.clos {P : Program} {w : World} {K : PySem.W.Frag} {mg : Str → Option Value} {base : Heap} {k : Nat} {f c : Addr} {φ : Heap → Prop} {q : Str} {cl : List (Str × Addr)} {ps fr : List Str} {sp : List (Option V) → Sp} (R : CRunX P w K mg base k f (.ext φ) c q cl ps fr sp) (hφ : ∀ h, φ h → PySem.W.FnAt f h)
    {H0 : Hp} {ws : List (Option V)} (hf : H0 f = some (.ext φ)) (hc : H0 c = some (CodeO c q)) (hz : CelZ cl fr ws H0) :
    ClosX P w K mg base k H0 f ps.length (fun vs H Q E => sp ws vs (dropC (cl.map (·.2)) H) (fun v H' => (∀ c ∈ cl.map (·.2), H' c = none) → Q v (reC (cl.map (·.2)) H H')) (fun cls d H' => (∀ c ∈ cl.map (·.2), H' c = none) → E cls d (reC (cl.map (·.2)) H H'))) := by
  refine ⟨⟨φ, hf, hφ⟩, fun H s0 A outer s us vs Q E hr e0 r hl h => ?_⟩
  have z := hz.keep s0
  have dz := z.drops
  have nfz : ∀ {a : Addr} {x : HO}, H a = some x → (∀ o, x ≠ fz o) → a ∉ cl.map (·.2) := fun {a x} e n m => by
    obtain ⟨o, q⟩ := dz a m
    rw [q] at e; cases e; exact n o rfl
  have nfr : ∀ c ∈ cl.map (·.2), c ∉ frs outer := fun c m n => by
    obtain ⟨o, q⟩ := dz c m
    rw [e0.frf c n] at q; cases q
  have C : CellsAt cl fr ws s.heap (dropC (cl.map (·.2)) H) := by
    refine ⟨z.len, fun y a e => ?_, z.inj, fun i y e => ?_⟩
    · have m : a ∈ cl.map (·.2) := List.mem_map.mpr ⟨(y, a), PySem.mem_of_lookup e, rfl⟩
      obtain ⟨o, u, q, hd⟩ := z.fz (y, a) (PySem.mem_of_lookup e)
      exact ⟨dropC_in m, u, o, (e0.hok a _ q).1, hd⟩
    · obtain ⟨a, ha, hv⟩ := z.has i y e
      refine ⟨a, ha, fun v ev => ?_⟩
      obtain ⟨o, u, q, hd, ru⟩ := hv v ev
      exact ⟨u, ru, o, (e0.hok a _ q).1, hd⟩
  refine codeAny_mono (R.run A outer s _ us vs ws _ _ hr (env0_drop e0 dz) ?_ ?_ C r hl h) fun r s' hq => ?_
  · rw [dropC_out (nfz (s0 _ _ hf) fun o e => by cases e)]; exact s0 _ _ hf
  · rw [dropC_out (nfz (s0 _ _ hc) fun o e => by unfold CodeO at e; cases e)]; exact s0 _ _ hc
  · cases r with
    | error e => exact cx_re e0.hok dz nfr hq
    | ok fl =>
      cases fl with
      | ret u => exact ce_re e0.hok dz nfr hq
      | next => exact hq
      | brk => exact hq
      | cont => exact hq
section
variable {P : Program} {w : World} {K : PySem.W.Frag} {mg : Str → Option Value} {base : Heap} {N ps fr : List Str} {F : NF} {e : Expr} {f : Addr} {k : Nat} {sp : List (Option V) → Sp}
/-- a lambda by its body, which may raise -/
theorem CRunX.lam (S : NScope N ps fr F.scope) (hb : ∀ (pm ctv : Value) (us : List Value), us.length = ps.length → bindArgs (PySem.W.kla_fn F.name F.qual F.params e F.scope F.cl pm (.ref F.c) ctv) ⟨us, []⟩ = pure (ps.zip us))
    (body : ∀ (A : Around) (outer : List Env) (s : Shared) (H : Hp) (vs : List V) (ws : List (Option V)) (Q : VK) (E : XK), Room k (A.deeper (envF F f s.heap.objs.size)) → ws.length = fr.length → vs.length = ps.length → sp ws vs H Q E → ∃ t, PE (ncx (L2N.CX P w) P w K mg base N F f A outer s H E) e t ∧ t (startF N vs ws) H Q) :
    CRunX P w K mg base (k + 1) f (LmO f F e) F.c F.qual F.cl ps fr sp := by
  refine ⟨fun A outer s H us vs ws Q E hr e0 hf hc C r hl h => ?_⟩
  have lim : s.heap.NoLimit := e0.mod.nolimit.keeps fun b o e => (e0.bs b o e).1
  obtain ⟨⟨od, sl, pm, ctv, ho⟩, _, _⟩ := e0.hok f _ hf
  refine PySem.W.kla_callFunE hr.depth ho rfl S.co S.gen rfl (codeO_at e0.hok hc) ?_
  rw [hb pm ctv us (by rw [← r.length]; exact hl)]
  refine wpAny_pure (wpAny_newFunctionEnv S.nocell (fun ⟨n, _⟩ hy => S.par n (List.of_mem_zip hy).1) (fun h1 hns hsb => ⟨lim.fresh _ hsb, ?_⟩) S.kind)
  show codeAny _ _ (.expr e (envF F f s.heap.objs.size)) _ _
  have kp : ∀ b o, s.heap.get? b = some o → h1.get? b = some o := fun b o q => hsb.extBut b o (Nat.ne_of_lt (Heap.lt_size q)) (Heap.get?_push_of_some _ q)
  obtain ⟨t, ht, hq⟩ := body A outer s H vs ws Q E (hr.deeper _) C.len hl h
  have I : Inv (ncx (L2N.CX P w) P w K mg base N F f A outer s H E) [] (startF N vs ws) H { s with heap := h1, toks := s.toks + (ps.zip us).length } := inv_startN S hr.hd e0 hl r C hns kp
  refine PySem.W.kla_codeExpr (wpAny_mono (ht.run [] _ (startF N vs ws) H _ I hq) (fun v s' hs => ?_) fun e s' hs => hs)
  obtain ⟨w', H', J, rv, q⟩ := hs
  exact ⟨w', H', J.os, J.bare, J.base, J.hok, rv, q⟩
end
end My

/-! ### one turn of a comprehension's block -/
namespace My
open PySem PySem.Spec PyProof.Rows L2
/-- the block's loop ahead of a turn: its context B, its slots ω, what is walked (fp, tn), the caller's measure W -/
def LtAt (B : Cx) (ω : L2.St) (fp : List Addr) (tn : Nat → Heap → Prop) (W : Nat → Nat → Hp → Prop) (n : Nat) (s : Shared) : Prop :=
  ∃ (j : Nat) (G : Hp), Inv B [] ω G s ∧ tn j s.heap ∧ W j n G ∧ ∀ b ∈ fp, G b = none
/-- in the block, what is walked is nobody's -/
theorem lt_walk {X : Cx} {t : Shared} {G0 G : Hp} {scope : Scope} {ce : Env} {fp : List Addr} {ω : L2.St} {s : Shared} (I : Inv (X.blk t G0 scope ce fp) [] ω G s) (hn : ∀ b ∈ fp, G b = none) : ∀ b ∈ fp, FpOk (X.blk t G0 scope ce fp) [] G b := by
  intro b mb
  have z := I.ok.exf b mb
  refine ⟨hn b mb, z.1, I.ok.exfs b mb, .inl mb, fun y c e => z.2 y c e, ?_⟩
  rintro p (mp : p ∈ ([] : List (Addr × Obj)) ++ [])
  cases mp
section
variable {X : Cx} {elt tg iter : Expr} {ifs : List Expr} {scope : Scope} {own : List (Str × Nat)} {pos : Pos} {g : TG} {tt : TT} {te : TE}
/-- one turn that yields -/
theorem lt_turn {t : Shared} {G0 : Hp} {ce : Env} {fp : List Addr} {tn : Nat → Heap → Prop} {W : Nat → Nat → Hp → Prop} {J : L2.It} {it D : Addr} {σ : L2.St} {j n : Nat} {G : Hp} {s : Shared} {Nx : Hp → Prop}
    (calm : X.calm = true) (T : Turn X.prog X.w X.K tg J fp it tn)
    (gB : PG (X.blk t G0 scope ce fp) tg g) (tB : PTs (X.blk t G0 scope ce fp) ifs tt) (eB : PE (X.blk t G0 scope ce fp) elt te)
    (I : Inv (X.blk t G0 scope ce fp) [] (wipe σ (own.map (·.2))) G s) (at_ : tn j s.heap) (free : ∀ b ∈ fp, G b = none) (go : J.go j G)
    (down : ∀ G', Nx G' → ∃ m, m < n ∧ W (j + 1) m G')
    (step : ∀ x G', J.yld j G x G' → g x (wipe σ (own.map (·.2))) G' fun σ2 G2 => wipe σ2 (own.map (·.2)) = wipe σ (own.map (·.2)) ∧ tt σ2 G2 fun b G3 =>
      if b = true then te σ2 G3 fun y G4 => ∃ acc, G4 D = some (.lst acc) ∧ acc.length < sizeLine ∧ Nx (upd G4 D (.lst (acc ++ [y]))) else Nx G3)
    {R : Option Value → Shared → Prop} {E : Value → Shared → Prop}
    (hR : ∀ u s1, wpAny (model X.prog X.w) X.A (letOwnedTupleGo tg (.ref it) u) (fun _ s2 => wpAny (model X.prog X.w) X.A (assign tg ce u) (fun _ s3 =>
        wpAny (model X.prog X.w) X.A (forIn ifs true fun c r => if r = true then do let ok ← isTrue c ce (eval c ce); pure (ForInStep.yield ok) else pure (ForInStep.yield r)) (fun ok s4 =>
          if ok = true then wpAny (model X.prog X.w) X.A (eval elt ce) (fun z s5 => wpAny (model X.prog X.w) X.A (call (.builtin "list.append") [.ref D, z]) (fun _ s6 => ∃ m, m < n ∧ LtAt (X.blk t G0 scope ce fp) (wipe σ (own.map (·.2))) fp tn W m s6) (fun _ _ => False) s5) (fun _ _ => False) s4
          else ∃ m, m < n ∧ LtAt (X.blk t G0 scope ce fp) (wipe σ (own.map (·.2))) fp tn W m s4) (fun _ _ => False) s3) (fun _ _ => False) s2) (fun _ _ => False) s1 → R (some u) s1) :
    wpAny (model X.prog X.w) X.A (pyNext (.ref it)) R E s := by
  refine thnF (T.item (X.blk t G0 scope ce fp) rfl rfl rfl calm j [] s _ G _ I (lt_walk I free) at_ go) ?_
  rintro _ s1 ⟨u, rfl, k⟩
  refine hR u s1 (thnF k ?_)
  rintro _ s2 ⟨x, G2, I2, ru, hy, at2, free2⟩
  have P2 := I2.pinned (lt_walk I2 free2) (T.obj _ _ at2)
  -- what stands at a turn's end
  have back : ∀ {σ3 : L2.St} {s3 : Shared} {G3 : Hp}, Inv (X.blk t G0 scope ce fp) ([] ++ pinsAt fp s2.heap) σ3 G3 s3 → wipe σ3 (own.map (·.2)) = wipe σ (own.map (·.2)) → Nx G3 → ∃ m, m < n ∧ LtAt (X.blk t G0 scope ce fp) (wipe σ (own.map (·.2))) fp tn W m s3 := by
    intro σ3 s3 G3 I3 ew nx
    obtain ⟨m, lm, wm⟩ := down G3 nx
    have held : ∀ b, b ∈ fp → ∀ o, s2.heap.get? b = some o → s3.heap.get? b = some o ∧ G3 b = none := by
      intro b mb o e
      have z := I3.pin (b, o) (List.mem_append_right _ (List.mem_append_right _ (mem_pinsAt mb e)))
      exact ⟨z.1, z.2.1⟩
    refine ⟨m, lm, j + 1, G3, Inv.weak (Inv.unpinned (pins := []) I3) ?_ ?_, T.keep _ _ _ at2 fun b mb o e => (held b mb o e).1, wm, fun b mb => ?_⟩
    · rw [← ew, wipe_length]
    · intro i v e
      rw [← ew] at e
      exact (wipe_some e).1
    · obtain ⟨o, e, _⟩ := T.obj _ _ at2 b mb
      exact (held b mb o e).2
  refine thnF (gB.run _ s2 _ G2 x u _ P2 ru (step x G2 hy)) ?_
  rintro _ s3 ⟨σ3, G3, I3, ew, q3⟩
  refine thnF (tB.run _ s3 σ3 G3 _ I3 q3) ?_
  rintro b s4 ⟨G4, I4, q4⟩
  cases b with
  | false => exact back I4 ew q4
  | true =>
    refine thnF (eB.run _ s4 σ3 G4 _ I4 q4) ?_
    rintro z s5 ⟨y, G5, I5, ry, acc, hD, la, nx⟩
    exact app_ok (X := X.blk t G0 scope ce fp) I5 hD la ry fun s6 I6 => back I6 ew nx
end
end My

/-! ### a comprehension during which the def's captured cells lie still (its items are functions that read them) -/
namespace My
open PySem PySem.Spec PyProof.Rows L2 LamX NdefX
section
variable {P : Program} {w : World} {cs : List Addr} {H H' : Hp} {h h' : Heap}
/-- behind steps during which the cells lay still, as if nothing had been known of them -/
theorem un_drop {fs ex : List Addr} (n : ∀ c ∈ cs, H c = none) (e : ∀ c ∈ cs, ∃ o, h.get? c = some o) (un : Un fs ex (addC cs h H) H' h h') (ok : HOk P w H' h') : Un fs ex H (dropC cs H') h h' := by
  have fr : ∀ c ∈ cs, ∃ o, h.get? c = some o ∧ H' c = some (fz o) := fun c m => let ⟨o, eo⟩ := e c m; ⟨o, eo, un.frzs c o _ (addC_in m eo)⟩
  have stay : ∀ {b : Addr} {o : Obj}, b ∈ cs → h.get? b = some o → h'.get? b = some o := fun {b o} m eb => by
    obtain ⟨o2, e2, z⟩ := fr b m
    rw [eb] at e2
    cases e2
    exact (ok b _ z).1
  have far : ∀ {b : Addr} {x : HO}, H b = some x → b ∉ cs := fun {b x} z m => by rw [n b m] at z; cases z
  have as : ∀ {b : Addr}, b ∉ cs → H b = none → addC cs h H b = none := fun m z => (addC_out m).trans z
  constructor
  · intro b o eb nb hb hx
    by_cases m : b ∈ cs
    · exact stay m eb
    · exact un.keep b o eb (as m nb) hb hx
  · intro b o eb nb hb hx
    by_cases m : b ∈ cs
    · exact ⟨o.slots, stay m eb⟩
    · exact un.slot b o eb (as m nb) hb hx
  · intro b o eb nb hx
    by_cases m : b ∈ cs
    · exact dropC_in m
    · rw [dropC_out m]; exact un.free b o eb (as m nb) hx
  · exact un.there
  · intro b xs z
    rw [dropC_out (far z)]
    exact un.tups b xs ((addC_out (far z)).trans z)
  · intro b o x z
    rw [dropC_out (far z)]
    exact un.frzs b o x ((addC_out (far z)).trans z)
  · intro b ps z
    rw [dropC_out (far z)]
    exact un.tbls b ps ((addC_out (far z)).trans z)
end
section
variable {X : Cx} {pins : List (Addr × Obj)} {σ : L2.St} {H : Hp} {s : Shared} {cl : List (Str × Addr)} {fr : List Str} {js : List Nat}
/-- the def's captured cells, whose they are -/
theorem cells_own (hin : ∀ q ∈ cl, X.env.cells.lookup q.1 = some q.2 ∧ X.fn q.1 = true) (I : Inv X pins σ H s) : ∀ c ∈ cl.map (·.2), X.s_0.heap.objs.size ≤ c ∧ (∃ x, X.env.cells.lookup x = some c) ∧ H c = none ∧ ∃ o, s.heap.get? c = some o := by
  intro c m
  obtain ⟨q, mq, rfl⟩ := List.mem_map.mp m
  obtain ⟨e1, e2⟩ := hin q mq
  obtain ⟨v, o, ho, _⟩ := I.cell _ _ e1
  exact ⟨I.ok.cab _ _ e2 e1, ⟨_, e1⟩, I.freeC _ _ e1, o, ho⟩
/-- they are laid still -/
theorem fz_now (cp : Caps X cl fr js) (hin : ∀ q ∈ cl, X.env.cells.lookup q.1 = some q.2 ∧ X.fn q.1 = true) (I : Inv X pins σ H s) : FzAt cl fr (js.map (slotAt σ)) H (addC (cl.map (·.2)) s.heap H) := by
  have C := cells_of I cp
  have ow := cells_own hin I
  refine ⟨⟨C.len, fun q mq => ?_, C.inj, fun i y ey => ?_⟩, fun q mq => (ow _ (List.mem_map.mpr ⟨q, mq, rfl⟩)).2.2.1, fun a ha => addC_out ha⟩
  · obtain ⟨v, o, ho, hd⟩ := I.cell _ _ (hin q mq).1
    exact ⟨o, v, addC_in (List.mem_map.mpr ⟨q, mq, rfl⟩) ho, hd⟩
  · obtain ⟨c, hc, hv⟩ := C.has i y ey
    refine ⟨c, hc, fun v ev => ?_⟩
    obtain ⟨u, ru, o, ho, hd⟩ := hv v ev
    exact ⟨o, u, addC_in (List.mem_map.mpr ⟨(y, c), PySem.mem_of_lookup hc, rfl⟩) ho, hd, ru⟩
theorem addC_upd {cs : List Addr} {h : Heap} {D : Addr} {x : HO} (m : D ∉ cs) : addC cs h (upd H D x) = upd (addC cs h H) D x := by
  funext a
  by_cases e : a = D
  · subst e
    rw [addC_out m, upd_same, upd_same]
  · rw [upd_ne e]
    unfold addC
    rw [upd_ne e]
theorem addC_heap {cs : List Addr} {h h' : Heap} (k : ∀ c ∈ cs, h.get? c = h'.get? c) : addC cs h H = addC cs h' H := by
  funext a
  unfold addC
  split
  · rw [k a (by assumption)]
  · rfl
/-- a block that captures nothing names only new cells -/
theorem blk_far {scope : Scope} {cells : List (Str × Addr)} {h : Heap} {x : Str} {c : Addr} (nf : scope.names.all (fun y => !decide (y.2 = .free)) = true) (e : (cellsFrom (h.objs.size + 1) scope.names (cloFrom cells scope.names [])).lookup x = some c) : h.objs.size < c := by
  have z : cloFrom cells scope.names [] = [] := by
    cases q : cloFrom cells scope.names [] with
    | nil => rfl
    | cons p l =>
      have m : p ∈ cloFrom cells scope.names [] := by rw [q]; exact List.mem_cons_self
      rcases cloFrom_mem (n := p.1) (c := p.2) m with k | ⟨k, _⟩
      · cases k
      · have := List.all_eq_true.mp nf _ k
        simp at this
  rw [z, ← Heap.size_push h { cls := .type "dict", data := .dict #[] }] at e
  rcases cells_mem (PySem.mem_of_lookup e) with k | ⟨_, k, _⟩
  · cases k
  · rw [Heap.size_push] at k; exact k
/-- the block starts, the cells lying still -/
theorem blk_add {t s4 : Shared} {G : Hp} {scope : Scope} {ce : Env} {fp cs : List Addr} {ω : L2.St} (I : Inv (X.blk t G scope ce fp) [] ω G s4) (n : ∀ c ∈ cs, G c = none) (e : ∀ c ∈ cs, ∃ o, t.heap.get? c = some o) (k4 : ∀ b o, t.heap.get? b = some o → s4.heap.get? b = some o)
    (bs : ∀ c ∈ cs, X.base.objs.size ≤ c) (nf : ∀ c ∈ cs, c ∉ (X.blk t G scope ce fp).fs) (nL : ∀ c ∈ cs, c ≠ ce.locals) (nC : ∀ x c, ce.cells.lookup x = some c → c ∉ cs) :
    Inv (X.blk t (addC cs t.heap G) scope ce fp) [] ω (addC cs t.heap G) s4 := by
  have same : addC cs t.heap G = addC cs s4.heap G := addC_heap fun c m => by
    obtain ⟨o, eo⟩ := e c m
    rw [eo, k4 _ _ eo]
  have none' : ∀ {b : Addr}, addC cs t.heap G b = none → G b = none ∧ b ∉ cs := fun {b} z => by
    by_cases m : b ∈ cs
    · obtain ⟨o, eo⟩ := e b m
      rw [addC_in m eo] at z; cases z
    · rw [addC_out m] at z; exact ⟨z, m⟩
  have ok := I.ok
  refine ⟨⟨ok.mod, ok.kind, ok.glob, ok.blt, ok.above, ok.inj, ok.has, ok.cab, ok.hd, ok.frames, ok.stk, ok.exf, fun b o eb => ⟨(ok.bs b o eb).1, ?_⟩, ok.bsz, ok.noex, ok.exfs, ok.funs, fun b hb => ?_⟩, I.os, I.bare,
    ⟨fun b o eb z => I.base.keep b o eb (none' z).1, fun b o eb z => I.base.slot b o eb (none' z).1, fun b o eb z _ => z, I.base.there, fun b xs z => z, fun b o u z => z, fun b ps z => ⟨#[], by rw [Array.append_empty]; exact z⟩⟩,
    I.loc, I.cell, ?_, fun x c hc => ?_, fun p mp => ?_, ?_, I.len⟩
  · refine (addC_out fun m => ?_).trans (ok.bs b o eb).2
    exact absurd (Nat.lt_of_lt_of_le (Heap.lt_size eb) (bs b m)) (Nat.lt_irrefl _)
  · exact (addC_out fun m => nf b m hb).trans (ok.frf b hb)
  · exact (addC_out fun m => nL _ m rfl).trans I.free
  · exact (addC_out (nC x c hc)).trans (I.freeC x c hc)
  · cases (show p ∈ ([] : List (Addr × Obj)) from mp)
  · rw [same]
    exact hok_add I.hok n fun c m => let ⟨o, eo⟩ := e c m; ⟨o, k4 _ _ eo⟩
end
/-- [elt for tg in iter ..]: the cells lie still from its first turn to its end -/
def tLcZ (cl : List (Str × Addr)) (fr : List Str) (js : List Nat) (wi : TI) (g : TG) (tt : TT) (te : TE) (vs : List Nat) : TE := fun σ H Q => wi σ H fun J H1 => ∀ H2, FzAt cl fr (js.map (slotAt σ)) H1 H2 → ∀ D, H2 D = none →
  ∃ W : Nat → Nat → Hp → Prop, (∃ m, W 0 m (upd H2 D (.lst []))) ∧ ∀ i m G, W i m G →
    (J.stop i G ∧ ((∀ c ∈ cl.map (·.2), G c = H2 c) → Q (.ref D) (dropC (cl.map (·.2)) G))) ∨ (J.go i G ∧ ∃ Nx : Hp → Prop, (∀ G', Nx G' → ∃ m', m' < m ∧ W (i + 1) m' G') ∧ ∀ x G', J.yld i G x G' → g x (wipe σ vs) G' fun σ2 G2 => wipe σ2 vs = wipe σ vs ∧ tt σ2 G2 fun b G3 =>
      if b = true then te σ2 G3 fun y G4 => ∃ acc, G4 D = some (.lst acc) ∧ acc.length < sizeLine ∧ Nx (upd G4 D (.lst (acc ++ [y]))) else Nx G3)
section
variable {X : Cx} {elt tg iter : Expr} {ifs : List Expr} {scope : Scope} {own : List (Str × Nat)} {pos : Pos} {g : TG} {tt : TT} {te : TE}
theorem pe_lcZ {cl : List (Str × Addr)} {fr : List Str} {js : List Nat} {wi : TI} (calm : X.calm = true) (nd : X.N.Nodup) (cp : X.Ok → Caps X cl fr js) (hin : X.Ok → ∀ q ∈ cl, X.env.cells.lookup q.1 = some q.2 ∧ X.fn q.1 = true)
    (nf : scope.names.all (fun y => !decide (y.2 = .free)) = true) (hi : PI X tg iter wi) (ok : BlkOk X.N X.env.scope scope own)
    (hg : ∀ (s : Shared) (H : Hp) (C : Addr) (cl : List (Str × Addr)) (fp : List Addr), PG (X.blk s H scope (compEnvC scope cl C X.env) fp) tg g)
    (ht : ∀ (s : Shared) (H : Hp) (C : Addr) (cl : List (Str × Addr)) (fp : List Addr), PTs (X.blk s H scope (compEnvC scope cl C X.env) fp) ifs tt)
    (he : ∀ (s : Shared) (H : Hp) (C : Addr) (cl : List (Str × Addr)) (fp : List Addr), PE (X.blk s H scope (compEnvC scope cl C X.env) fp) elt te)
    (fold : ∀ x, foldedSetIterable iter X.env x = pure x := by intro _; rfl) :
    PE X (.ListComp elt [⟨tg, iter, ifs, 0⟩] scope pos) (tLcZ cl fr js wi g tt te (own.map (·.2))) := by
  refine ⟨fun pins s σ H Q I h => ?_⟩
  rw [eval_ListComp]
  have clo : ∀ y ∈ scope.names, y.2 = .free → ∃ c, X.env.cells.lookup y.1 = some c := fun y my e => (ok.free y my e).elim (fun k => I.ok.has _ (.inl k)) fun k => I.ok.has _ (.inr k)
  refine wpAny_comprehension_free (use := none) rfl fold (closure_ok clo) ok.kind (fun y my e => by rw [ok.uniq y my, e]) (thn (hi.run pins s σ H _ I h) fun _ s1 k1 => thn k1 ?_)
  rintro _ s2 ⟨it, fp, tn, J, H2, rfl, I2, T, at2, f2, q⟩
  have zz := fz_now (cp I2.ok) (hin I2.ok) I2
  have ow := cells_own (hin I2.ok) I2
  have q := q _ zz
  clear zz
  generalize hcs : cl.map (·.2) = cs at q ow
  refine wpAny_newObj_type (newEnv_comp ?_) (Nat.zero_le _)
  have lt2 : ∀ c ∈ cs, c < s2.heap.objs.size := fun c m => by
    obtain ⟨o, eo⟩ := (ow c m).2.2.2
    exact Heap.lt_size eo
  have freeD : addC cs s2.heap H2 s2.heap.objs.size = none := (addC_out fun m => Nat.lt_irrefl _ (lt2 _ m)).trans (I2.hok.fresh (Nat.le_refl _))
  obtain ⟨W, ⟨n0, w0⟩, turn⟩ := q s2.heap.objs.size freeD
  rw [← addC_upd fun m => Nat.lt_irrefl _ (lt2 _ m)] at w0
  -- the new list stands
  have old : ∀ b o, s2.heap.get? b = some o → (s2.heap.push { cls := .type "list", data := .seq ([] : List Value).toArray }).get? b = some o := fun b o e => Heap.get?_push_of_some _ e
  have I3 : Inv X pins σ (upd H2 s2.heap.objs.size (.lst [])) { s2 with heap := s2.heap.push { cls := .type "list", data := .seq ([] : List Value).toArray } } :=
    I2.laid (t' := s2.toks) old (Nat.le_refl _) ⟨Nat.zero_le _, [], 0, .nil, Heap.get?_push_size _ rfl⟩
  have same3 : addC cs s2.heap (upd H2 s2.heap.objs.size (.lst [])) = addC cs (s2.heap.push { cls := .type "list", data := .seq ([] : List Value).toArray }) (upd H2 s2.heap.objs.size (.lst [])) := addC_heap fun c m => by
    obtain ⟨o, eo⟩ := (ow c m).2.2.2
    rw [eo, old _ _ eo]
  rw [same3] at w0
  clear same3
  have ow3 : ∀ c ∈ cs, ∃ o, (s2.heap.push { cls := .type "list", data := .seq ([] : List Value).toArray }).get? c = some o := fun c m => by
    obtain ⟨o, eo⟩ := (ow c m).2.2.2
    exact ⟨o, old _ _ eo⟩
  have n3 : ∀ c ∈ cs, upd H2 s2.heap.objs.size (.lst []) c = none := fun c m => (upd_ne (Nat.ne_of_lt (lt2 c m))).trans (ow c m).2.2.1
  have at3 : ∀ c ∈ cs, addC cs s2.heap H2 c = addC cs (s2.heap.push { cls := .type "list", data := .seq ([] : List Value).toArray }) (upd H2 s2.heap.objs.size (.lst [])) c := fun c m => by
    obtain ⟨o, eo⟩ := (ow c m).2.2.2
    rw [addC_in m eo, addC_in m (old _ _ eo)]
  have old3 : ∀ b o, s2.heap.get? b = some o → ({ s2 with heap := s2.heap.push { cls := .type "list", data := .seq ([] : List Value).toArray } } : Shared).heap.get? b = some o := old
  have lt3 : ∀ b o, s2.heap.get? b = some o → b < ({ s2 with heap := s2.heap.push { cls := .type "list", data := .seq ([] : List Value).toArray } } : Shared).heap.objs.size := fun b o e => Heap.lt_size (old b o e)
  have w0 : W 0 n0 (addC cs ({ s2 with heap := s2.heap.push { cls := .type "list", data := .seq ([] : List Value).toArray } } : Shared).heap (upd H2 s2.heap.objs.size (.lst []))) := w0
  have ow3 : ∀ c ∈ cs, ∃ o, ({ s2 with heap := s2.heap.push { cls := .type "list", data := .seq ([] : List Value).toArray } } : Shared).heap.get? c = some o := ow3
  have at3 : ∀ c ∈ cs, addC cs s2.heap H2 c = addC cs ({ s2 with heap := s2.heap.push { cls := .type "list", data := .seq ([] : List Value).toArray } } : Shared).heap (upd H2 s2.heap.objs.size (.lst [])) c := at3
  generalize hF0 : addC cs s2.heap H2 = F0 at turn freeD at3
  generalize hD : s2.heap.objs.size = D at freeD w0 turn I3 n3 at3 ⊢
  generalize ({ s2 with heap := s2.heap.push { cls := .type "list", data := .seq ([] : List Value).toArray } } : Shared) = s3 at I3 old3 lt3 w0 ow3 at3 ⊢
  have f3 : ∀ b ∈ fp, FpOk X pins (upd H2 D (.lst [])) b ∧ b < s3.heap.objs.size := by
    intro b mb
    obtain ⟨o, e, _⟩ := T.obj _ _ at2 b mb
    have lb : b < D := by rw [← hD]; exact Heap.lt_size e
    exact ⟨⟨(upd_ne (Nat.ne_of_lt lb)).trans (f2 b mb).1, (f2 b mb).2⟩, lt3 b o e⟩
  have t3 : tn 0 s3.heap := T.keep _ _ _ at2 fun b _ o e => old3 b o e
  generalize upd H2 D (.lst []) = G0 at w0 I3 f3 n3 at3
  have I4 := block_start I3 ok nd f3
  have nfp : ∀ b ∈ fp, b ∉ cs := fun b mb m => by
    obtain ⟨⟨_, _, _, _, z4, _⟩, _⟩ := f3 b mb
    obtain ⟨x, ex⟩ := (ow b m).2.1
    exact z4 x b ex rfl
  have I4 := blk_add (cs := cs) I4 n3 ow3 (fun b o e => pushCells_keeps _ _ _ _ (Heap.get?_push_of_some _ e)) (fun c m => Nat.le_trans I3.ok.bsz (ow c m).1) (fun c m hb => by
      rcases List.mem_cons.mp (I3.stkSub c hb) with z | z
      · obtain ⟨x, ex⟩ := (ow c m).2.1
        exact I3.cne x c ex z
      · obtain ⟨_, o, ho, _⟩ := I3.ok.funs.mem z
        exact absurd (Nat.lt_of_lt_of_le (Heap.lt_size ho) (ow c m).1) (Nat.lt_irrefl _)) (fun c m z => by
      obtain ⟨o, eo⟩ := ow3 c m
      exact Nat.ne_of_lt (Heap.lt_size eo) z) (fun x c hc m => by
      obtain ⟨o, eo⟩ := ow3 c m
      exact Nat.lt_irrefl _ (Nat.lt_trans (Heap.lt_size eo) (blk_far nf hc)))
  have gB := hg s3 (addC cs s3.heap G0) s3.heap.objs.size (cellsFrom (s3.heap.objs.size + 1) scope.names (cloFrom X.env.cells scope.names [])) fp
  have tB := ht s3 (addC cs s3.heap G0) s3.heap.objs.size (cellsFrom (s3.heap.objs.size + 1) scope.names (cloFrom X.env.cells scope.names [])) fp
  have eB := he s3 (addC cs s3.heap G0) s3.heap.objs.size (cellsFrom (s3.heap.objs.size + 1) scope.names (cloFrom X.env.cells scope.names [])) fp
  have cL : (compEnvC scope (cellsFrom (s3.heap.objs.size + 1) scope.names (cloFrom X.env.cells scope.names [])) s3.heap.objs.size X.env).locals = s3.heap.objs.size := rfl
  show codeAny _ _ (.compStart _ 0 (.ref it) (.ref D) (compEnvC scope (cellsFrom (s3.heap.objs.size + 1) scope.names (cloFrom X.env.cells scope.names [])) s3.heap.objs.size X.env)) (compPost (model X.prog X.w) X.A X.xe none _ (.ref D) s3.heap.objs.size) { s3 with heap := pushCells (s3.heap.push { cls := .type "dict", data := .dict #[] }) scope.names }
  have t4 : tn 0 (pushCells (s3.heap.push { cls := .type "dict", data := .dict #[] }) scope.names) := T.keep _ _ _ t3 fun b _ o e => pushCells_keeps _ _ _ _ (Heap.get?_push_of_some _ e)
  generalize compEnvC scope (cellsFrom (s3.heap.objs.size + 1) scope.names (cloFrom X.env.cells scope.names [])) s3.heap.objs.size X.env = ce at I4 gB tB eB cL ⊢
  generalize hs4 : ({ s3 with heap := pushCells (s3.heap.push { cls := .type "dict", data := .dict #[] }) scope.names } : Shared) = s4 at I4 ⊢
  have t4 : tn 0 s4.heap := by rw [← hs4]; exact t4
  refine codeAny_compStart_list ?_ (T.self X.A 0 _ _ _ t4 ?_) <;>
  · refine compLoop_any (LtAt (X.blk s3 (addC cs s3.heap G0) scope ce fp) (wipe σ (own.map (·.2))) fp tn W) ?_ n0 ⟨0, _, I4, t4, w0, fun b mb => (addC_out (nfp b mb)).trans (f3 b mb).1.1⟩
    rintro n s5 ⟨j, G, I5, at5, w5, free5⟩
    rcases turn j n G w5 with ⟨stop, fin⟩ | ⟨go, Nx, down, step⟩
    · refine thnF (T.done (X.blk s3 (addC cs s3.heap G0) scope ce fp) rfl rfl rfl calm j [] s5 _ G _ I5 (lt_walk I5 free5) at5 stop) ?_
      rintro _ s6 ⟨rfl, I6⟩
      have lie : ∀ c ∈ cs, ∃ o, s3.heap.get? c = some o ∧ G c = some (fz o) := fun c m => by
        obtain ⟨o, eo⟩ := ow3 c m
        exact ⟨o, eo, I6.base.frzs c o _ (addC_in m eo)⟩
      have I7 : Inv X pins σ (dropC cs G) s6 := I3.call' (ch := fp) I6.os (un_drop n3 ow3 I6.base I6.hok) (hok_drop I6.hok fun c m => let ⟨o, _, z⟩ := lie c m; ⟨o, z⟩) I6.bare fun b mb => by
        obtain ⟨⟨_, z1, z2, z3, z4, z5⟩, _⟩ := f3 b mb
        exact ⟨z3, z1, z4, z5⟩
      have nC : dropC cs G s3.heap.objs.size = none := by
        by_cases m : s3.heap.objs.size ∈ cs
        · exact dropC_in m
        · rw [dropC_out m, ← cL]; exact I6.free
      obtain ⟨m, hn, _⟩ := I6.loc
      have hn : s6.heap.Ns s3.heap.objs.size m := by rw [← cL]; exact hn
      obtain ⟨z0, z1, z2, z3, z4, z5⟩ := I3.fpOk (Nat.le_refl _) nC
      refine ⟨m, hn, fun h7 sb => ⟨.ref D, dropC cs G, I7.turned (t' := s6.toks) (fun b o hb e => (sb.2 b hb).trans e) z0 z1 z3 z4 z5, rfl, ?_⟩⟩
      rw [← hcs] at fin ⊢
      refine fin fun c mc => ?_
      rw [hcs] at mc
      obtain ⟨o, eo, z⟩ := lie c mc
      rw [at3 c mc, addC_in mc eo]
      exact z
    · exact lt_turn calm T gB tB eB I5 at5 free5 go down step fun u s6 k => wpAny_mono k (fun _ s7 k => wpAny_mono k (fun _ s8 k => wpAny_mono k (fun ok s9 k => by
        cases ok with
        | false => exact k
        | true => exact wpAny_mono k (fun z s10 k => wpAny_mono k (fun _ _ k => k) fun _ _ f => f.elim) fun _ _ f => f.elim) fun _ _ f => f.elim) fun _ _ f => f.elim) fun _ _ f => f.elim
end
end My

/-! ### functions that are asked one by one; what stays meanwhile -/
namespace My
open PySem PySem.Spec PyProof.Rows L2 LamX NdefX
/-- all but tables and lists stays, and lists stay lists -/
def KeepX (H H' : Hp) : Prop := (∀ a xs, H a = some (.tup xs) → H' a = some (.tup xs)) ∧ (∀ a xs, H a = some (.dK xs) → H' a = some (.dK xs)) ∧ ∀ a xs, H a = some (.lst xs) → ∃ ys, H' a = some (.lst ys)
theorem KeepX.refl (H : Hp) : KeepX H H := ⟨fun _ _ h => h, fun _ _ h => h, fun _ xs h => ⟨xs, h⟩⟩
theorem KeepX.trans {H H1 H2 : Hp} (a : KeepX H H1) (b : KeepX H1 H2) : KeepX H H2 := ⟨fun _ _ h => b.1 _ _ (a.1 _ _ h), fun _ _ h => b.2.1 _ _ (a.2.1 _ _ h), fun _ _ h => let ⟨_, q⟩ := a.2.2 _ _ h; b.2.2 _ _ q⟩
theorem KeepX.ext {H H' : Hp} (e : ExtN H H') : KeepX H H' := ⟨fun _ _ h => e _ _ h (fun _ z => by cases z), fun _ _ h => e _ _ h (fun _ z => by cases z), fun _ xs h => ⟨xs, e _ _ h (fun _ z => by cases z)⟩⟩
theorem KeepX.same {H H' : Hp} (e : Same H H') : KeepX H H' := ⟨fun _ _ h => e _ _ h, fun _ _ h => e _ _ h, fun _ xs h => ⟨xs, e _ _ h⟩⟩
theorem KeepX.dr {H H' : Hp} {s : Addr} (d : Dr s H H') (hs : Src H s) : KeepX H H' := by
  obtain ⟨_, e⟩ := hs
  refine ⟨fun a xs h => d.app (fun z => by subst z; rw [e] at h; cases h) h, fun a xs h => d.app (fun z => by subst z; rw [e] at h; cases h) h, fun a xs h => ?_⟩
  by_cases z : a = s
  · subst z
    obtain ⟨_, q⟩ := d.s
    exact ⟨_, q⟩
  · exact ⟨xs, d.app z h⟩
theorem KeepX.drop {cs : List Addr} {H : Hp} (f : ∀ c ∈ cs, ∃ o, H c = some (fz o)) : KeepX H (dropC cs H) := by
  have out : ∀ {a : Addr} {x : HO}, H a = some x → (∀ o, x ≠ fz o) → a ∉ cs := fun {a x} e n m => by
    obtain ⟨o, q⟩ := f a m
    rw [q] at e
    cases e
    exact n o rfl
  exact ⟨fun a xs h => (dropC_out (out h fun o z => by cases z)).trans h, fun a xs h => (dropC_out (out h fun o z => by cases z)).trans h, fun a xs h => ⟨xs, (dropC_out (out h fun o z => by cases z)).trans h⟩⟩
theorem Ty7.kx {H H' : Hp} {v : V} {t : String} (h : Ty7 H v t) (k : KeepX H H') : Ty7 H' v t := by
  cases h with
  | non => exact .non
  | bl b => exact .bl b
  | int i => exact .int i
  | str x => exact .str x
  | lst h => obtain ⟨_, q⟩ := k.2.2 _ _ h; exact .lst q
  | tup h => exact .tup (k.1 _ _ h)
  | dK h => exact .dK (k.2.1 _ _ h)
/-- the tables stay where one list changes -/
theorem tabs_list {T : List (Addr × Str)} {H H' : Hp} {D : Addr} {xs : List V} (t : Tabs T H) (b : But D H H') (g : H D = some (.lst xs)) : Tabs T H' := by
  intro p mp
  obtain ⟨ps, h1, h2, h3⟩ := t p mp
  have far : ∀ {c : Addr} {o : HO}, H c = some o → (∀ zs, o ≠ .lst zs) → H' c = some o := fun {c o} e n => b c o (by
    rintro rfl
    rw [g] at e
    cases e
    exact n _ rfl) e
  refine ⟨ps, far h1 (fun zs z => by cases z), h2, fun pos cv hc => ?_⟩
  obtain ⟨c, e1, e2⟩ := h3 pos cv hc
  exact ⟨c, e1, far e2 fun zs z => by unfold CodeO at z; cases z⟩
theorem tabs_dr {T : List (Addr × Str)} {H H' : Hp} {s : Addr} (t : Tabs T H) (d : Dr s H H') (hs : Src H s) : Tabs T H' := let ⟨_, e⟩ := hs; tabs_list t d.b e
theorem ClosX.mono {P : Program} {w : World} {K : PySem.W.Frag} {mg : Str → Option Value} {base : Heap} {j k : Nat} {H0 : Hp} {f : Addr} {m : Nat} {sp : Sp} (h : ClosX P w K mg base j H0 f m sp) (jk : j ≤ k) : ClosX P w K mg base k H0 f m sp :=
  ⟨h.fn, fun H s A outer s' us vs Q E hr => h.run H s A outer s' us vs Q E (hr.mono jk)⟩
/-- a function at f: asked, it tells (0), or is refused by cX with a line (1), or by cN (2) -/
def AskF (P : Program) (w : World) (K : PySem.W.Frag) (mg : Str → Option Value) (base : Heap) (k : Nat) (cX cN : Addr) (g : Nat) (H : Hp) (f : Addr) : Prop := ∃ sp : Sp, ClosX P w K mg base k H f 0 sp ∧
  ∀ H', Same H H' → ∀ (Q : VK) (E : XK), (g = 0 → ∀ v G, Same H' G → Q v G) → (g = 1 → ∀ dd G, Same H' G → G dd = some (.xd [("line", .int 0)]) → E (.ref cX) (some dd) G) → (g = 2 → ∀ G, Same H' G → E (.ref cN) none G) → sp [] H' Q E
/-- a function that captured cells, asked while they lie still -/
theorem AskF.of {P : Program} {w : World} {K : PySem.W.Frag} {mg : Str → Option Value} {base : Heap} {j k g : Nat} {cX cN f c : Addr} {φ : Heap → Prop} {q : Str} {cl : List (Str × Addr)} {fr : List Str} {sp : List (Option V) → Sp} (R : CRunX P w K mg base j f (.ext φ) c q cl [] fr sp) (jk : j ≤ k) (hφ : ∀ h, φ h → PySem.W.FnAt f h)
    {H0 : Hp} {ws : List (Option V)} (hf : H0 f = some (.ext φ)) (hc : H0 c = some (CodeO c q)) (hz : CelZ cl fr ws H0)
    (hs : ∀ (G : Hp) (Q : VK) (E : XK), KeepX H0 G → (g = 0 → ∀ v G', Same G G' → Q v G') → (g = 1 → ∀ dd G', Same G G' → G' dd = some (.xd [("line", .int 0)]) → E (.ref cX) (some dd) G') → (g = 2 → ∀ G', Same G G' → E (.ref cN) none G') → sp ws [] G Q E) :
    AskF P w K mg base k cX cN g H0 f := by
  refine ⟨_, (R.clos hφ hf hc hz).mono jk, fun H' s0 Q E h0 h1 h2 => ?_⟩
  have dz := (hz.keep s0).drops
  refine hs _ _ _ ((KeepX.same s0).trans (KeepX.drop dz)) (fun e v G' s n => ?_) (fun e dd G' s gd n => ?_) (fun e G' s n => ?_)
  · exact h0 e v _ (re_same s)
  · refine h1 e dd _ (re_same s) ?_
    rw [reC_out fun m => by rw [n dd m] at gd; cases gd]
    exact gd
  · exact h2 e _ (re_same s)
/-- captured cells seen by another closure -/
theorem CelZ.sub {cl cl' : List (Str × Addr)} {fr fr' : List Str} {ws ws' : List (Option V)} {H : Hp} (h : CelZ cl fr ws H) (len : ws'.length = fr'.length) (sub : ∀ p ∈ cl', p ∈ cl) (lk : ∀ x c, cl'.lookup x = some c → cl.lookup x = some c) (kl : ∀ x ∈ fr', ∀ c, cl.lookup x = some c → cl'.lookup x = some c)
    (at_ : ∀ (i : Nat) (y : Str), fr'[i]? = some y → ∃ j : Nat, fr[j]? = some y ∧ ∀ v, ws'[i]? = some (some v) → ws[j]? = some (some v)) : CelZ cl' fr' ws' H := by
  refine ⟨len, fun p m => h.fz p (sub p m), fun x y c a b => h.inj x y c (lk _ _ a) (lk _ _ b), fun i y e => ?_⟩
  obtain ⟨j, ej, hv⟩ := at_ i y e
  obtain ⟨c, hc, q⟩ := h.has j y ej
  exact ⟨c, kl y (List.mem_iff_getElem?.mpr ⟨i, e⟩) c hc, fun v z => q v (hv v z)⟩
/-- .. of one def -/
theorem CelZ.clo {cells : List (Str × Addr)} {names names' : List (Str × NameKind)} {fr fr' : List Str} {ws ws' : List (Option V)} {H : Hp} (h : CelZ (cloFrom cells names []) fr ws H) (sub : ∀ y ∈ names', y.2 = .free → y ∈ names) (hfr : ∀ y ∈ fr', (y, NameKind.free) ∈ names')
    (js : List Nat) (hj : js.map (fun j => fr[j]?) = fr'.map some) (hw : js.map (fun j => ws[j]?) = ws'.map some) : CelZ (cloFrom cells names' []) fr' ws' H := by
  have mem : ∀ {ns : List (Str × NameKind)} {x : Str} {c : Addr}, (cloFrom cells ns []).lookup x = some c → (x, NameKind.free) ∈ ns ∧ c = (cells.lookup x).getD 0 := fun {ns x c} e => by
    rcases cloFrom_mem (PySem.mem_of_lookup e) with k | k
    · cases k
    · exact k
  have has : ∀ {ns : List (Str × NameKind)} {x : Str}, (x, NameKind.free) ∈ ns → (cloFrom cells ns []).lookup x = some ((cells.lookup x).getD 0) := fun {ns x} m => by
    obtain ⟨c, e⟩ := mem_lookup (cloFrom_has (cells := cells) (acc := []) m)
    rw [e, (mem e).2]
  have l1 := congrArg List.length hj
  have l2 := congrArg List.length hw
  rw [List.length_map, List.length_map] at l1 l2
  refine h.sub (by omega) (fun p m => ?_) (fun x c e => ?_) (fun x mx c e => ?_) fun i y e => ?_
  · rcases cloFrom_mem (n := p.1) (c := p.2) m with k | ⟨k1, k2⟩
    · cases k
    · have q := cloFrom_has (cells := cells) (acc := []) (sub _ k1 rfl)
      rw [← k2] at q
      exact q
  · obtain ⟨m, rfl⟩ := mem e
    exact has (sub _ m rfl)
  · rw [(mem e).2]
    exact has (hfr x mx)
  · have a := congrArg (fun l => l[i]?) hj
    have b := congrArg (fun l => l[i]?) hw
    rw [List.getElem?_map, List.getElem?_map, e] at a
    rw [List.getElem?_map, List.getElem?_map] at b
    cases q : js[i]? with
    | none => rw [q] at a; cases a
    | some j =>
      rw [q] at a b
      refine ⟨j, by simpa using a, fun v z => ?_⟩
      rw [z] at b
      simpa using b
theorem lmO_ne {f : Addr} {F : NF} {e : Expr} : ∀ ps, LmO f F e ≠ .tbl ps := fun ps z => by unfold LmO at z; cases z
theorem FzAt.far {cl : List (Str × Addr)} {fr : List Str} {ws : List (Option V)} {H H2 : Hp} {D : Addr} (h : FzAt cl fr ws H H2) (n : H2 D = Option.none) : D ∉ cl.map (·.2) := fun m => by
  obtain ⟨o, e⟩ := h.toCelZ.drops D m
  rw [n] at e
  cases e
end My

/-! ### own errors whose __init__ is a def: raised where the context is none; asked about in a suite -/
namespace My
open PySem PySem.Spec PyProof.Rows L2
/-- what the written part says of such a class, as a test -/
def oexB (K : PySem.W.Frag) (C : Addr) : Bool := match K.lookup C with
  | some ⟨.type "type", _, .cls cd, sl⟩ => (match cd.mro, sl.toList with
    | .ref C' :: bm, [_, _, _, _, some (.builtin n), _] => C' == C && n == "ValueError.__new__" && !cd.hasDel && cd.hasDict && PySem.HandSPX.refsVE bm
    | _, _ => false)
  | _ => false
theorem oexC_mk {K : PySem.W.Frag} {C : Addr} (q : oexB K C = true) (sa : PySem.W.findIn K (.ref C) "__setattr__" = some (some (.builtin "object.__setattr__"))) (exC : PySem.W.subIn K (.ref C) (.type "BaseException") = some true)
    (tyC : PySem.W.typeIn K (.ref C) = some (.type "type")) (kC : PySem.W.keepIn K (.ref C) = true) : OexC K C := by
  refine ⟨?_, sa, exC, tyC, kC⟩
  unfold oexB at q
  split at q
  · rename_i dd cd sl ho
    split at q
    · rename_i C' bm k0 k1 k2 k3 n k5 hm hs
      obtain ⟨nm, bs, mro, ns, qn, hd, sn, sub, ab, col, del⟩ := cd
      obtain ⟨l⟩ := sl
      simp only [Bool.and_eq_true, beq_iff_eq, Bool.not_eq_true'] at q hm hs
      obtain ⟨⟨⟨⟨rfl, rfl⟩, rfl⟩, rfl⟩, ht⟩ := q
      subst hm hs
      exact ⟨nm, qn, ns, bs, bm, sn, sub, ab, col, dd, k0, k1, k2, k3, k5, ho, ht⟩
    · cases q
  · cases q
/-- such a class: its __init__, the defaults dvs behind the others -/
structure InX (K : PySem.W.Frag) (q : Str) (st : Stmt) (C : Addr) (ps : List Str) (dvs : List V) where
  f : Addr
  fd : FuncData
  FD : FunD K "__init__" q (defArgs st) (defBody st) (defScope st) dvs [] f fd
  T : OexC K C
  i : PySem.W.findIn K (.ref C) "__init__" = some (some (.ref f))
  t : PySem.W.typeIn K (.ref f) = some (.type "function")
/-- the same, of the class's object -/
def oexO (C : Addr) (o : Obj) : Bool := match o with
  | ⟨.type "type", _, .cls cd, sl⟩ => (match cd.mro, sl.toList with
    | .ref C' :: bm, [_, _, _, _, some (.builtin n), _] => C' == C && n == "ValueError.__new__" && !cd.hasDel && cd.hasDict && PySem.HandSPX.refsVE bm
    | _, _ => false)
  | _ => false
theorem oexB_of {K : PySem.W.Frag} {C : Addr} {o : Obj} (l : K.lookup C = some o) (h : oexO C o = true) : oexB K C = true := by
  unfold oexB
  rw [l]
  unfold oexO at h
  split at h
  · exact h
  · cases h
def inx_mk {K : PySem.W.Frag} {q : Str} {st : Stmt} {C : Addr} {ps : List Str} {dvs : List V} {f D : Addr} {oc : Value} {od an : Option Addr} {osl : Array (Option Value)} {kV doc pm cdv ct : Value} {o oC : Obj} {its : List Value} {n : Nat}
    (i : PySem.W.findIn K (.ref C) "__init__" = some (some (.ref f))) (lC : K.lookup C = some oC) (xC : oexO C oC = true) (sa : PySem.W.findIn K (.ref C) "__setattr__" = some (some (.builtin "object.__setattr__"))) (exC : PySem.W.subIn K (.ref C) (.type "BaseException") = some true)
    (tyC : PySem.W.typeIn K (.ref C) = some (.type "type")) (kC : PySem.W.keepIn K (.ref C) = true)
    (l : K.lookup f = some ⟨oc, od, .func (PySem.W.fnOf "__init__" q (defArgs st) (defBody st) (defScope st) (.ref D) kV doc pm an cdv ct), osl⟩) (c : PySem.W.codeIn K cdv q = true) (k : PySem.W.keepIn K (.ref f) = true) (t : PySem.W.typeIn K (.ref f) = some (.type "function"))
    (lT : K.lookup D = some o) (oT : o.data = .seq its.toArray n) (ne : dvs ≠ []) (r : Vals dvs its) : InX K q st C ps dvs :=
  ⟨f, _, ⟨⟨oc, od, .ref D, kV, doc, pm, an, cdv, ct, osl, rfl, l, c, .inr ⟨ne, D, o, its, n, rfl, lT, oT, r⟩, .inl rfl⟩, k⟩, oexC_mk (oexB_of lC xC) sa exC tyC kC, i, t⟩
section
variable {X : Cx} {e : Expr} {es : List Expr} {ta : TA} {p pos : Pos}
/-- C(e, ..) by C's own __init__: what is raised has no context -/
theorem pmk_oexN {CX : CXT} {x : Str} {C fI : Addr} {k : Nat} {fd : FuncData} {ps : List Str} {sp : Sp} {ds : List Value} {dvs : List V} (T : OexC X.K C) (iC : PySem.W.findIn X.K (.ref C) "__init__" = some (some (.ref fI))) (tI : PySem.W.typeIn X.K (.ref fI) = some (.type "function"))
    (F1 : FnOk X.prog X.w X.K X.mg X.base CX k fI fd ps sp) (hr : Room (k + 1) X.A) (hb : Binds X.K fd ps ds) (hd : Vals dvs ds) (hx : Passes CX X (fun _ _ _ => False)) (hg : Gl X x) (hm : X.mg x = some (.ref C)) (ha : PA X (e :: es) ta)
    (hdb : (x == ("__debug__" : Str)) = false := by decide) (he : starEach (e :: es) X.env = (false, eval e X.env) :: starEach es X.env := by rfl) (hpl : (backTo pos (starEach es X.env)).any (·.1) = false := by rfl) :
    L2N.PMk X (.Call (.Name x p) (e :: es) [] pos) (tMkO C sp dvs ta) := by
  intro pins s σ H Q I h
  obtain ⟨nm, q, N, bs, bm, sn, sub, ab, col, dd, k0, k1, k2, k3, k5, hC, hbm⟩ := T.cls
  refine wpAny_Call_Name_kw (ld_glob I hg hm ?_ hdb)
  refine PySem.W.callWith_K (h₀ := X.base) I.ok.mod.kin T.kC (thn (ha.run pos pins s σ H _ I h) fun us s1 ⟨vs, H1, I1, r1, hz, q1⟩ => ⟨I1.kIn, ?_⟩) he hpl
  show wpAny _ _ (call (.ref C) us) _ _ _
  obtain ⟨hp, g, dr, tk, os⟩ := s1
  let a : Addr := hp.objs.size + 1
  have le : hp.objs.size ≤ a := Nat.le_succ _
  have old : ∀ b o, hp.get? b = some o → ((hp.push (PySem.W.kdv_tup us)).push (PySem.HandSPX.excO C hp.objs.size)).get? b = some o := fun b o z => Heap.get?_push_of_some _ (Heap.get?_push_of_some _ z)
  have new : ((hp.push (PySem.W.kdv_tup us)).push (PySem.HandSPX.excO C hp.objs.size)).get? a = some (PySem.HandSPX.excO C hp.objs.size) := by show Heap.get? _ (hp.objs.size + 1) = _; heap_get
  have I2 := I1.laid (t' := tk) (a := a) (o := exo a C none) old le (exo_ok new)
  have hq := q1 a (I1.hok.fresh le)
  have r2 : Vals (V.ref a :: (vs ++ dvs)) (Value.ref a :: (us ++ ds)) := .cons rfl (r1.append hd)
  have len : (Value.ref a :: us ++ ds).length = ps.length := (r2.length.symm.trans (F1.len _ _ _ _ hq))
  have few : us.length ≤ sizeLine := by rw [← Paired.length r1, sizeLine_eq]; omega
  refine wpAny_call (PySem.HandSPX.call_own F.excBase_ValueError (fun Y => PySem.HandSPX.refsVE_contains Y bm hbm) (I1.kIn _ _ hC) (PySem.W.looks_findIn I1.kIn iC) (fun self => PySem.W.bind_fn I1.kIn self tI) few
    (codeAny_mono (F1.run _ X.stack _ _ ⟨Value.ref a :: us, []⟩ (Value.ref a :: (us ++ ds)) _ _ (fun _ _ _ => False) (hr.make C us []) (I2.env0.make C us []) (hb _ (Value.ref a :: us) I2.kIn len) r2 hq) fun r s' hq' => ?_))
  cases r with
  | error er => exact hx pins σ _ _ er s' I2 hq'
  | ok fl =>
    cases fl with
    | next => exact False.elim hq'
    | brk => exact False.elim hq'
    | cont => exact False.elim hq'
    | ret u =>
      obtain ⟨v, H2, os2, bare2, un2, hok2, rv, ev, d, fs, ea, ed, hd1, q2⟩ := hq'
      subst ev
      obtain ⟨h2, g2, d2, t2, os'⟩ := s'
      obtain ⟨t0, G, J, kG, ge, hoe, na⟩ := mk_end0 (d2 := d2) (t2 := t2) I1 le old un2 hok2 os2 bare2 ea ed hd1
      exact ⟨rv, a, _, _, ⟨G, g2, d2, t2, os'⟩, _, .ref C, some d, rfl, J, kG, ge, hoe, ⟨rfl, rfl, fun vs hv => by cases hv; rfl⟩, rfl, rfl, na, rfl, bare2, raises_own T.exC T.tyC, q2⟩
end
end My

/-! ### a def that is handed the exception that is handled -/
namespace My
open PySem PySem.Spec PyProof.Rows L2 L2H
/-- what such a def promises: a promise for each class of the exception, at its address -/
structure FnX (P : Program) (w : World) (K : PySem.W.Frag) (mg : Str → Option Value) (base : Heap) (CX : CXT) (k : Nat) (f : Addr) (fd : FuncData) (ps : List Str) (sp : Addr → Value → Option Addr → Sp) : Prop where
  len : ∀ a cls d vs H Q E, sp a cls d vs H Q E → vs.length = ps.length
  run : ∀ (A : Around) (outer : List Env) (s : Shared) (H : Hp) (args : Args) (us : List Value) (vs : List V) (Q : VK) (E : XK) (p : Addr × Obj) (cls : Value) (d : Option Addr), RoomH k A → Hot1 A p → Zc cls d p.2 → PinOk outer H s p → Env0 P w K mg base A outer s H → BindsTo s fd args (ps.zip us) → Vals vs us → sp p.1 cls d vs H Q E →
    codeAny (model P w) A (.call (.ref f) args) (CR CX outer P w H s Q E) s
/-- such a def by its body: the rule for a def called in a suite, at this one exception -/
theorem fnX_of {CX : CXT} {P : Program} {w : World} {K : PySem.W.Frag} {mg : Str → Option Value} {base : Heap} {k : Nat} {x qual : Str} {st : Stmt} {f : Addr} {fd : FuncData} {N ps : List Str} {sp : Addr → Value → Option Addr → Sp} (F : Fun K x qual st f fd) (S : FnScope N ps (defScope st))
    (len : ∀ a cls d vs H Q E, sp a cls d vs H Q E → vs.length = ps.length)
    (hbody : ∀ (cdv : Value) (A : Around) (outer : List Env) (s : Shared) (H : Hp) (vs : List V) (Q : VK) (E : XK) (p : Addr × Obj) (cls : Value) (d : Option Addr), Hot1 A p → Zc cls d p.2 → RoomH k (A.deeper (envOfC qual (defScope st) s.heap.objs.size f cdv)) → sp p.1 cls d vs H Q E →
      ∃ t, PSs (cxH CX P w K mg base N qual (defScope st) f cdv A outer s H E p) (defBody st) t ∧ t { nx := fun _ H' => Q .non H', rt := Q } (L2.start N vs) H) :
    FnX P w K mg base CX (k + 1) f fd ps sp := by
  obtain ⟨oc, od, kV, doc, pm, an, cdv, ct, osl, rfl, lk, hcd⟩ := F.ex
  refine ⟨len, fun A outer s H args us vs Q E p cls d hr hot hz hpin e0 hb r hsp => ?_⟩
  have hl := len _ _ _ _ _ _ _ hsp
  have KX : K.In s.heap := e0.mod.kin.keeps fun b o e => (e0.bs b o e).1
  have lim : s.heap.NoLimit := e0.mod.nolimit.keeps fun b o e => (e0.bs b o e).1
  have hkind : ∀ y ∈ ps.zip us, (defScope st).names.lookup y.1 = some .local ∨ ((defScope st).names.lookup y.1 = some .cell ∧ ((cellsFrom (s.heap.objs.size + 1) (defScope st).names []).lookup y.1).isSome = true) := fun ⟨n, v⟩ hy => by
    rcases S.par n (List.of_mem_zip hy).1 with q | q
    · exact .inl q
    · exact .inr ⟨q, PySem.W.cellsFrom_some _ _ _ (.inl q)⟩
  refine codeAny_call_function hr.depth (KX _ _ lk) rfl S.co S.gen rfl (PySem.W.codeRec_of KX hcd) (hb _ _ _ _ ?_)
  refine wpAny_newFunctionEnv_cells S.kind hkind fun env he s1 x => ?_
  subst he
  refine ⟨lim.keeps x.toInCall.keep, codeAny_func ?_⟩
  obtain ⟨t, ht, hq⟩ := hbody cdv A outer s H vs Q E p cls d hot hz (hr.deeper _) hsp
  have I : Inv (cxH CX P w K mg base N qual (defScope st) f cdv A outer s H E p) [] (L2.start N vs) H s1 := inv_startH S hpin e0 hl r x
  refine wpAny_mono (ht.run [] s1 (L2.start N vs) H _ I hq) (fun fl s' hs => ?_) fun e s' hs => hs
  cases fl with
  | ret u =>
    obtain ⟨v, σ', H', J, rv, q⟩ := hs
    exact ⟨v, H', J.os, J.bare, J.base, J.hok, rv, q⟩
  | next =>
    obtain ⟨σ', H', J, q⟩ := hs
    exact ⟨V.non, H', J.os, J.bare, J.base, J.hok, rfl, q⟩
  | brk =>
    obtain ⟨_, _, _, q⟩ := hs
    exact False.elim q
  | cont =>
    obtain ⟨_, _, _, q⟩ := hs
    exact False.elim q
section
variable {X : Cx} {CX : CXT} {k : Nat} {f a : Addr} {fd : FuncData} {ps : List Str} {sp : Addr → Value → Option Addr → Sp} {E : L2.St → XK} {x : Str} {q pos : Pos} {e : Expr} {es : List Expr} {t : TA} {oe : Obj} {cls : Value} {d : Option Addr} {pn : List (Addr × Obj)}
/-- its call in the suite -/
theorem pe_callX (F : FnX X.prog X.w X.K X.mg X.base CX k f fd ps sp) (hr : Room k X.A) (hz : L2N.Zn cls d oe) (hf : ∃ vs, oe.data = .fields vs) (hg : Gl (X.suite a ((a, oe) :: pn)) x) (hm : X.mg x = some (.ref f)) (hk : PySem.W.keepIn X.K (.ref f) = true) (hb : Binds X.K fd ps []) (hx : ∀ σ, PassesAt CX (X.suite a ((a, oe) :: pn)) σ (E σ))
    (ha : PA (X.suite a ((a, oe) :: pn)) (e :: es) t) (hdb : (x == ("__debug__" : Str)) = false := by decide) (he : starEach (e :: es) X.env = (false, eval e X.env) :: starEach es X.env := by rfl) (hpl : (backTo pos (starEach es X.env)).any (·.1) = false := by rfl) :
    PE (X.suite a ((a, oe) :: pn)) (.Call (.Name x q) (e :: es) [] pos) (tCallS (sp a cls d) E t) := by
  refine ⟨fun pins s σ H Q I h => ?_⟩
  refine wpAny_Call_Name_kw (ld_glob I hg hm ?_ hdb)
  refine PySem.W.callWith_K (h₀ := X.base) I.ok.mod.kin hk (thn (ha.run pos pins s σ H _ I h) fun us s1 ⟨vs, H1, I1, r, q⟩ => ⟨I1.kIn, ?_⟩) he hpl
  have hl : us.length = ps.length := by rw [← r.length]; exact F.len _ _ _ _ _ _ _ q
  have b := hb s1 us I1.kIn (by rw [List.append_nil]; exact hl)
  rw [List.append_nil] at b
  have P1 := I1.pin (a, oe) (List.mem_append.mpr (.inl List.mem_cons_self))
  have hpin : PinOk (X.suite a ((a, oe) :: pn)).stack H1 s1 (a, oe) := ⟨P1.1, P1.2.1, fun hm => (List.mem_cons.mp (I1.stkSub a hm)).elim P1.2.2.1 P1.2.2.2.1, P1.2.2.2.2⟩
  obtain ⟨vs', e1⟩ := hf
  refine wpAny_call (codeAny_mono (F.run (X.suite a ((a, oe) :: pn)).A (X.suite a ((a, oe) :: pn)).stack s1 H1 ⟨us, []⟩ us vs Q (E σ) (a, oe) cls d ⟨hr.dp, hr.un⟩ ⟨rfl, vs', e1, hz.2.2 vs' e1⟩ hz.zc hpin I1.env0 b r q) fun r s' hq => ?_)
  cases r with
  | error e => exact hx σ pins H1 s1 e s' I1 hq
  | ok fl =>
    cases fl with
    | ret u => exact I1.after hq
    | next => exact False.elim hq
    | brk => exact False.elim hq
    | cont => exact False.elim hq
/-- isinstance(e, c) in such a def -/
theorem call_isXd {X : Cx} {p : Addr × Obj} {cls : Value} {d : Option Addr} (hp : p ∈ X.pn) (hz : Zc cls d p.2) (hf : ∃ vs : Array Value, p.2.data = .fields vs ∧ vs[2]? = some .none) : CallR X (.builtin "isinstance") (rIsX X.K cls d p.1) := by
  intro pins s σ H xs us Q I r h
  obtain ⟨D, c, cv, b, rfl, rfl, C, rfl, hcv, e, q⟩ := h
  cases r with
  | cons rx rr =>
    cases rr with
    | cons rt rr =>
      cases rr
      cases rx
      have ec := hcv _ rt
      subst ec
      obtain ⟨hget, _⟩ := I.pin p (List.mem_append.mpr (.inl hp))
      obtain ⟨vs, hv, _⟩ := hf
      have J : PySem.W.InstAt s.heap p.1 p.2 D none := by
        obtain ⟨p1, oc, od, oda, osl⟩ := p
        obtain ⟨h1, h2⟩ := hz
        dsimp only at h1 h2 hv hget ⊢
        subst h1 h2 hv
        exact ⟨hget, rfl, rfl, trivial⟩
      exact PySem.W.kia_one (PySem.W.handS_kitx_exc C.hg C.hk C.hs C.hd C.ha C.hn C.ht C.hm) I.kIn J e (fun z => nomatch z) fun tk => ⟨.bl b, H, I.kept (t' := tk) fun _ _ z => z, rfl, q⟩
end
end My

/-! ### isinstance of the exception that is handled, whether it has fields of its own or none -/
namespace My
open PySem PySem.Spec PyProof.Rows L2 L2H
/-- its own dict, if it has one -/
def DctAt (d : Option Addr) (H : Hp) : Prop := ∀ dd, d = some dd → ∃ fs, H dd = some (.xd fs)
theorem DctAt.same {d : Option Addr} {H H' : Hp} (h : DctAt d H) (s : Same H H') : DctAt d H' := fun dd e => let ⟨fs, q⟩ := h dd e; ⟨fs, s _ _ q⟩
theorem DctAt.non {H : Hp} : DctAt none H := fun dd e => by cases e
def rIsXe (K : PySem.W.Frag) (cls : Value) (d : Option Addr) (a : Addr) : List V → Hp → VK → Prop := fun xs H Q => ∃ (D : Addr) (c : V) (cv : Value) (b : Bool), cls = .ref D ∧ DctAt d H ∧ ExcC K D ∧ xs = [.ref a, c] ∧ (∀ u, RelV c u → u = cv) ∧ PySem.W.kitOne K (.ref D) cv = some b ∧ Q (.bl b) H
theorem excC_cls {K : PySem.W.Frag} {D : Addr} (C : ExcC K D) : (PySem.W.clsIn K D).isSome = true := by
  have := C.hd
  unfold PySem.W.hasDictIn at this
  cases q : PySem.W.clsIn K D with
  | none => rw [q] at this; cases this
  | some c => rfl
theorem call_isXe {X : Cx} {p : Addr × Obj} {cls : Value} {d : Option Addr} (hp : p ∈ X.pn) (hz : Zc cls d p.2) (hf : ∃ vs : Array Value, p.2.data = .fields vs ∧ vs[2]? = some .none) : CallR X (.builtin "isinstance") (rIsXe X.K cls d p.1) := by
  intro pins s σ H xs us Q I r h
  obtain ⟨D, c, cv, b, rfl, hd, C, rfl, hcv, e, q⟩ := h
  cases r with
  | cons rx rr =>
    cases rr with
    | cons rt rr =>
      cases rr
      cases rx
      have ec := hcv _ rt
      subst ec
      obtain ⟨hget, _⟩ := I.pin p (List.mem_append.mpr (.inl hp))
      obtain ⟨vs, hv, _⟩ := hf
      have no : PySem.W.notCls p.2 = true := by unfold PySem.W.notCls; rw [hv] <;> rfl
      have J : ∃ od, PySem.W.InstAt s.heap p.1 p.2 D od := by
        cases d with
        | none => exact ⟨none, hget, hz.1, no, by rw [hz.2]; trivial⟩
        | some dd =>
          obtain ⟨fs, hx⟩ := hd dd rfl
          have hx : ObjOk X.prog X.w H s.heap dd (.xd fs) := I.hok dd _ hx
          obtain ⟨mA, hns, hr⟩ := hx
          obtain ⟨od, ho, hl⟩ := lookIn_ns hns
          exact ⟨some od, hget, hz.1, no, by rw [hz.2]; exact ho⟩
      obtain ⟨od, J⟩ := J
      exact PySem.W.kia_one (PySem.W.kitx_exc (excC_cls C) C.hg C.hk C.hs C.ha C.hn C.ht C.hm) I.kIn J e (fun z => nomatch z) fun tk => ⟨.bl b, H, I.kept (t' := tk) fun _ _ z => z, rfl, q⟩
/-- an own class's two answers by the chains -/
structure Xt (K : PySem.W.Frag) (D : Addr) : Prop where
  E : ExcC K D
theorem Xt.kitX {K : PySem.W.Frag} {mg : Str → Option Value} {x : Str} {D : Addr} {b : Bool} (d : Xt K D) (e : Ex K mg x) (s : PySem.W.subIn K (.ref D) (.ref D) = some true) (h : PySem.W.subIn K (.ref D) (.ref e.C) = some b) : PySem.W.kitOne K (.ref D) (.ref e.C) = some b := by
  unfold PySem.W.kitOne
  split
  · next q =>
    have z : (Value.ref D) = .ref e.C := beq_iff_eq.mp q
    rw [← z, s] at h
    cases h
    rfl
  · exact e.kcls h
theorem Xt.kitC {K : PySem.W.Frag} {mg : Str → Option Value} {x : Str} {D : Addr} {b : Bool} (d : Xt K D) (e : Ec K mg x) (s : PySem.W.subIn K (.ref D) (.ref D) = some true) (h : PySem.W.subIn K (.ref D) (.ref e.C) = some b) : PySem.W.kitOne K (.ref D) (.ref e.C) = some b := by
  unfold PySem.W.kitOne
  split
  · next q =>
    have z : (Value.ref D) = .ref e.C := beq_iff_eq.mp q
    rw [← z, s] at h
    cases h
    rfl
  · have e2 : ((PySem.W.clsIn K e.C).isSome && PySem.W.typeIn K (.ref e.C) == some (.type "type")) = true := by
      have := e.d
      unfold PySem.W.hasDictIn at this
      cases q : PySem.W.clsIn K e.C with
      | none => rw [q] at this; cases this
      | some c => rw [e.t] <;> rfl
    show (if ((PySem.W.clsIn K e.C).isSome && PySem.W.typeIn K (.ref e.C) == some (.type "type")) = true then PySem.W.subIn K (.ref D) (.ref e.C) else none) = some b
    rw [if_pos e2]
    exact h
theorem xt_mk {K : PySem.W.Frag} {D : Addr} (y1 : PySem.W.findIn K (.ref D) "__getattribute__" = some (some (.builtin "BaseException.__getattribute__"))) (y2 : PySem.W.findIn K (.ref D) "__getattr__" = some none) (x3 : PySem.W.subIn K (.ref D) (.type "BaseException") = some true) (y3 : PySem.W.hasDictIn K D = true) (y4 : PySem.W.findIn K (.ref D) "__class__" = some (some (.builtin "object.__class__")))
    (y5 : PySem.W.specialIn K (.builtin "object.__class__") "__get__" = some (some (.builtin "getset_descriptor.__get__"))) (y6 : PySem.W.takesIn K (.builtin "object.__class__") = some true) (y7 : PySem.W.mroIn K D (.type "object") = some true) : Xt K D := ⟨⟨y1, y2, x3, y3, y4, y5, y6, y7⟩⟩
end My

/-! ### isinstance of the exception in its own except suite, with or without fields -/
namespace My
open PySem PySem.Spec PyProof.Rows L2 L2H
theorem call_isXs {X : Cx} {a : Addr} {cls : Value} {d : Option Addr} {oe : Obj} {pn : List (Addr × Obj)} (hz : L2N.Zn cls d oe) (hf : ∃ vs, oe.data = .fields vs) : CallR (X.suite a ((a, oe) :: pn)) (.builtin "isinstance") (rIsXe X.K cls d a) := by
  obtain ⟨vs, hv⟩ := hf
  exact call_isXe (X := X.suite a ((a, oe) :: pn)) (p := (a, oe)) (show (a, oe) ∈ (a, oe) :: pn from List.mem_cons_self) hz.zc ⟨vs, hv, hz.2.2 vs hv⟩
theorem kit_exT {K : PySem.W.Frag} {C : Addr} {b : Bool} {n : String} (h : PySem.W.subIn K (.ref C) (.type n) = some b) (m : PySem.W.kitMeta n = true := by decide +kernel) : PySem.W.kitOne K (.ref C) (.type n) = some b := by
  unfold PySem.W.kitOne
  split
  · next q =>
    have z : (Value.ref C) = .type n := beq_iff_eq.mp q
    cases z
  · show (if PySem.W.kitMeta n = true then PySem.W.subIn K (.ref C) (.type n) else none) = some b
    rw [if_pos m]
    exact h
end My

namespace My
open PySem PySem.Spec PyProof.Rows L2
def top (i : Nat) : Stmt := PySem.Challenge.pw_nestlaid_k10_what_cannot_be_wrapped.main.body.getD i (.Pass ⟨0, 0, 0, 0⟩)
abbrev s_NoText_init : Stmt := inClass (top 3) 0
abbrev N_NoText_init : List Str := ["self", "why", "line"]
theorem sc_NoText_init : FnScope N_NoText_init ["self", "why", "line"] (defScope s_NoText_init) := ⟨rfl, rfl, rfl, by decide +kernel, rfl, by decide +kernel, by decide +kernel⟩
abbrev s_is_whole : Stmt := top 11
abbrev N_is_whole : List Str := ["thing"]
theorem sc_is_whole : FnScope N_is_whole ["thing"] (defScope s_is_whole) := ⟨rfl, rfl, rfl, by decide +kernel, rfl, by decide +kernel, by decide +kernel⟩
abbrev s_is_from_nought : Stmt := top 12
abbrev N_is_from_nought : List Str := ["thing"]
theorem sc_is_from_nought : FnScope N_is_from_nought ["thing"] (defScope s_is_from_nought) := ⟨rfl, rfl, rfl, by decide +kernel, rfl, by decide +kernel, by decide +kernel⟩
abbrev s_words_in : Stmt := top 14
abbrev N_words_in : List Str := ["part", "word"]
theorem sc_words_in : FnScope N_words_in ["part"] (defScope s_words_in) := ⟨rfl, rfl, rfl, by decide +kernel, rfl, by decide +kernel, by decide +kernel⟩
abbrev s_check_text : Stmt := top 15
abbrev N_check_text : List Str := ["text"]
theorem sc_check_text : FnScope N_check_text ["text"] (defScope s_check_text) := ⟨rfl, rfl, rfl, by decide +kernel, rfl, by decide +kernel, by decide +kernel⟩
abbrev s_longest_in : Stmt := top 16
abbrev N_longest_in : List Str := ["text", "part", "word"]
theorem sc_longest_in : FnScope N_longest_in ["text"] (defScope s_longest_in) := ⟨rfl, rfl, rfl, by decide +kernel, rfl, by decide +kernel, by decide +kernel⟩
abbrev s_wished_in : Stmt := top 17
abbrev N_wished_in : List Str := ["text", "part"]
theorem sc_wished_in : FnScope N_wished_in ["text"] (defScope s_wished_in) := ⟨rfl, rfl, rfl, by decide +kernel, rfl, by decide +kernel, by decide +kernel⟩
abbrev s_lines_of : Stmt := top 18
abbrev N_lines_of : List Str := ["part", "wide", "found", "line", "word"]
theorem sc_lines_of : FnScope N_lines_of ["part", "wide"] (defScope s_lines_of) := ⟨rfl, rfl, rfl, by decide +kernel, rfl, by decide +kernel, by decide +kernel⟩
abbrev s_wrapped_in : Stmt := top 19
abbrev N_wrapped_in : List Str := ["text", "wide", "part", "line"]
theorem sc_wrapped_in : FnScope N_wrapped_in ["text", "wide"] (defScope s_wrapped_in) := ⟨rfl, rfl, rfl, by decide +kernel, rfl, by decide +kernel, by decide +kernel⟩
abbrev s_longest : Stmt := top 20
abbrev N_longest : List Str := ["text"]
theorem sc_longest : FnScope N_longest ["text"] (defScope s_longest) := ⟨rfl, rfl, rfl, by decide +kernel, rfl, by decide +kernel, by decide +kernel⟩
abbrev s_wished : Stmt := top 21
abbrev N_wished : List Str := ["text"]
theorem sc_wished : FnScope N_wished ["text"] (defScope s_wished) := ⟨rfl, rfl, rfl, by decide +kernel, rfl, by decide +kernel, by decide +kernel⟩
abbrev s_wrapped : Stmt := top 22
abbrev N_wrapped : List Str := ["text", "wide"]
theorem sc_wrapped : FnScope N_wrapped ["text", "wide"] (defScope s_wrapped) := ⟨rfl, rfl, rfl, by decide +kernel, rfl, by decide +kernel, by decide +kernel⟩
abbrev s_w_cell_at : Stmt := top 24
abbrev N_w_cell_at : List Str := ["_law_script", "_law_k"]
theorem sc_w_cell_at : FnScope N_w_cell_at ["_law_script", "_law_k"] (defScope s_w_cell_at) := ⟨rfl, rfl, rfl, by decide +kernel, rfl, by decide +kernel, by decide +kernel⟩
abbrev s_w_mixed : Stmt := top 25
abbrev N_w_mixed : List Str := ["_law_cell", "_law_k", "_law_low"]
theorem sc_w_mixed : FnScope N_w_mixed ["_law_cell", "_law_k"] (defScope s_w_mixed) := ⟨rfl, rfl, rfl, by decide +kernel, rfl, by decide +kernel, by decide +kernel⟩
abbrev s_w_source : Stmt := top 26
abbrev N_w_source : List Str := ["_law_cell"]
theorem sc_w_source : FnScope N_w_source ["_law_cell"] (defScope s_w_source) := ⟨rfl, rfl, rfl, by decide +kernel, rfl, by decide +kernel, by decide +kernel⟩
abbrev s_w_next : Stmt := top 27
abbrev N_w_next : List Str := ["_law_source_here", "_law_many", "_law_found"]
theorem sc_w_next : FnScope N_w_next ["_law_source_here", "_law_many"] (defScope s_w_next) := ⟨rfl, rfl, rfl, by decide +kernel, rfl, by decide +kernel, by decide +kernel⟩
abbrev s_w_word : Stmt := top 28
abbrev N_w_word : List Str := ["_law_source_here", "_law_some", "_law_many", "_law_first", "_law_step", "_law_k"]
theorem sc_w_word : FnScope N_w_word ["_law_source_here"] (defScope s_w_word) := ⟨rfl, rfl, rfl, by decide +kernel, rfl, by decide +kernel, by decide +kernel⟩
abbrev s_w_text : Stmt := top 29
abbrev N_w_text : List Str := ["_law_source_here", "_law_most", "_law_found", "_law_k", "_law_way"]
theorem sc_w_text : FnScope N_w_text ["_law_source_here", "_law_most"] (defScope s_w_text) := ⟨rfl, rfl, rfl, by decide +kernel, rfl, by decide +kernel, by decide +kernel⟩
abbrev s_w_refused : Stmt := top 30
abbrev N_w_refused : List Str := ["_law_ask", "e", "_law_kinds"]
theorem sc_w_refused : FnScope N_w_refused ["_law_ask"] (defScope s_w_refused) := ⟨rfl, rfl, rfl, by decide +kernel, rfl, by decide +kernel, by decide +kernel⟩
abbrev s_w_no_width : Stmt := top 31
abbrev N_w_no_width : List Str := ["_law_source_here"]
theorem sc_w_no_width : FnScope N_w_no_width ["_law_source_here"] (defScope s_w_no_width) := ⟨rfl, rfl, rfl, by decide +kernel, rfl, by decide +kernel, by decide +kernel⟩
abbrev s_w_no_text : Stmt := top 32
abbrev N_w_no_text : List Str := ["_law_source_here"]
theorem sc_w_no_text : FnScope N_w_no_text ["_law_source_here"] (defScope s_w_no_text) := ⟨rfl, rfl, rfl, by decide +kernel, rfl, by decide +kernel, by decide +kernel⟩
abbrev s_w_by_names : Stmt := top 33
abbrev N_w_by_names : List Str := ["_law_said", "_law_broad", "_law_lines", "_law_line"]
theorem sc_w_by_names : FnScope N_w_by_names ["_law_said", "_law_broad"] (defScope s_w_by_names) := ⟨rfl, rfl, rfl, by decide +kernel, rfl, by decide +kernel, by decide +kernel⟩
abbrev s_law : Stmt := top 34
abbrev N_law : List Str := ["_law_script", "_law_cell", "_law_source_here", "_law_bad_text", "_law_bad_width", "_law_due", "_law_asks", "_law_broad", "_law_said", "_law_ask"]
theorem sc_law : FnScope N_law ["_law_script"] (defScope s_law) := ⟨rfl, rfl, rfl, by decide +kernel, rfl, by decide +kernel, by decide +kernel⟩
structure Tx (w : World) (K : PySem.W.Frag) (mg : Str → Option Value) where
  d_is_whole : Df K mg "is_whole" s_is_whole ["thing"]
  d_is_from_nought : Df K mg "is_from_nought" s_is_from_nought ["thing"]
  d_words_in : Df K mg "words_in" s_words_in ["part"]
  d_check_text : Df K mg "check_text" s_check_text ["text"]
  d_longest_in : Df K mg "longest_in" s_longest_in ["text"]
  d_wished_in : Df K mg "wished_in" s_wished_in ["text"]
  d_lines_of : Df K mg "lines_of" s_lines_of ["part", "wide"]
  d_wrapped_in : Df K mg "wrapped_in" s_wrapped_in ["text", "wide"]
  d_longest : Df K mg "longest" s_longest ["text"]
  d_wished : Df K mg "wished" s_wished ["text"]
  d_wrapped : Df K mg "wrapped" s_wrapped ["text", "wide"]
  d_w_cell_at : Df K mg "_law_cell_at" s_w_cell_at ["_law_script", "_law_k"]
  d_w_mixed : Df K mg "_law_mixed" s_w_mixed ["_law_cell", "_law_k"]
  d_w_source : Df K mg "_law_source" s_w_source ["_law_cell"]
  d_w_next : Df K mg "_law_next" s_w_next ["_law_source_here", "_law_many"]
  d_w_word : Df K mg "_law_word" s_w_word ["_law_source_here"]
  d_w_text : Df K mg "_law_text" s_w_text ["_law_source_here", "_law_most"]
  d_w_refused : Df K mg "_law_refused" s_w_refused ["_law_ask"]
  d_w_no_width : Df K mg "_law_no_width" s_w_no_width ["_law_source_here"]
  d_w_no_text : Df K mg "_law_no_text" s_w_no_text ["_law_source_here"]
  d_w_by_names : Df K mg "_law_by_names" s_w_by_names ["_law_said", "_law_broad"]
  d_law : Df K mg "law" s_law ["_law_script"]
  k_law : Addr
  p_law : Addr
  cc_law : d_law.fd.code = .ref k_law
  hd_law : PySem.W.codeHdIn K k_law p_law = true
  nk_law : K.lookup p_law = none
  b_ValueError : mg "ValueError" = none
  b_all : mg "all" = none
  b_bool : mg "bool" = none
  b_int : mg "int" = none
  b_isinstance : mg "isinstance" = none
  b_len : mg "len" = none
  b_list : mg "list" = none
  b_max : mg "max" = none
  b_range : mg "range" = none
  b_str : mg "str" = none
  e_NestError : Ex K mg "NestError"
  e_NoNumber : Ex K mg "NoNumber"
  e_NoText : Ec K mg "NoText"
  e_NoName : Ec K mg "NoName"
  e_NoRow : Ec K mg "NoRow"
  e_NoStyle : Ec K mg "NoStyle"
  e_NoTree : Ec K mg "NoTree"
  e_NoWord : Ec K mg "NoWord"
  e_NoWords : Ec K mg "NoWords"
  r_NoNumber : PySem.W.subIn K (.ref e_NoNumber.C) (.ref e_NestError.C) = some true
  v_NoNumber : PySem.W.subIn K (.ref e_NoNumber.C) (.type "ValueError") = some true
  i_NoNumber_NoNumber : PySem.W.subIn K (.ref e_NoNumber.C) (.ref e_NoNumber.C) = some true
  i_NoNumber_NoText : PySem.W.subIn K (.ref e_NoNumber.C) (.ref e_NoText.C) = some false
  i_NoNumber_NoName : PySem.W.subIn K (.ref e_NoNumber.C) (.ref e_NoName.C) = some false
  i_NoNumber_NoRow : PySem.W.subIn K (.ref e_NoNumber.C) (.ref e_NoRow.C) = some false
  i_NoNumber_NoStyle : PySem.W.subIn K (.ref e_NoNumber.C) (.ref e_NoStyle.C) = some false
  i_NoNumber_NoTree : PySem.W.subIn K (.ref e_NoNumber.C) (.ref e_NoTree.C) = some false
  i_NoNumber_NoWord : PySem.W.subIn K (.ref e_NoNumber.C) (.ref e_NoWord.C) = some false
  i_NoNumber_NoWords : PySem.W.subIn K (.ref e_NoNumber.C) (.ref e_NoWords.C) = some false
  r_NoText : PySem.W.subIn K (.ref e_NoText.C) (.ref e_NestError.C) = some true
  v_NoText : PySem.W.subIn K (.ref e_NoText.C) (.type "ValueError") = some true
  i_NoText_NoNumber : PySem.W.subIn K (.ref e_NoText.C) (.ref e_NoNumber.C) = some false
  i_NoText_NoText : PySem.W.subIn K (.ref e_NoText.C) (.ref e_NoText.C) = some true
  i_NoText_NoName : PySem.W.subIn K (.ref e_NoText.C) (.ref e_NoName.C) = some false
  i_NoText_NoRow : PySem.W.subIn K (.ref e_NoText.C) (.ref e_NoRow.C) = some false
  i_NoText_NoStyle : PySem.W.subIn K (.ref e_NoText.C) (.ref e_NoStyle.C) = some false
  i_NoText_NoTree : PySem.W.subIn K (.ref e_NoText.C) (.ref e_NoTree.C) = some false
  i_NoText_NoWord : PySem.W.subIn K (.ref e_NoText.C) (.ref e_NoWord.C) = some false
  i_NoText_NoWords : PySem.W.subIn K (.ref e_NoText.C) (.ref e_NoWords.C) = some false
  n_NoText_line : PySem.W.findIn K (.ref e_NoText.C) "line" = some none
  x_NoText : Xt K e_NoText.C
  xf_NoText : XfC K e_NoText.C
  d_NoText_init : InX K "NoText.__init__" s_NoText_init e_NoText.C ["self", "why", "line"] [.int 0]
section
variable {w : World} {K : PySem.W.Frag} {mg : Str → Option Value}
/-- the tables of the defs that make functions -/
def tabs (T : Tx w K mg) : List (Addr × Str) := [(T.p_law, qIn "law" ++ "<lambda>")]
theorem Tx.m_law (T : Tx w K mg) : (T.p_law, qIn "law" ++ ("<lambda>" : Str)) ∈ tabs T := by unfold tabs; exact List.mem_cons_self
theorem Tx.u_law (T : Tx w K mg) : ∀ p ∈ tabs T, p.1 = T.p_law → p.2 = qIn "law" ++ ("<lambda>" : Str) := fun p m e => by
  unfold tabs at m
  simp only [List.mem_cons, List.not_mem_nil, or_false] at m
  subst m
  rfl
structure TBs (T : Tx w K mg) (base : Heap) : Prop where
  law : LamX.TabB base mg T.k_law T.p_law
def tabCs (T : Tx w K mg) : List (Addr × Addr) := [(T.k_law, T.p_law)]
end
end My
namespace My
open PySem L2
theorem atK {xs : List V} {k : Nat} {v : V} (h : xs[k]? = some v) : atI xs (k : Int) = some v := by
  unfold atI
  rw [ixN_nat (List.getElem?_eq_some_iff.mp h).1]
  exact h
/-- a draw off the first ones of a list -/
theorem pickP {P : V → Prop} {xs : List V} (ys : List V) {n : Int} (h : ∀ x ∈ xs, P x) (h0 : 0 ≤ n) (h1 : n < xs.length) : ∃ x, atI (xs ++ ys) n = some x ∧ P x := by
  obtain ⟨k, rfl⟩ := Int.eq_ofNat_of_zero_le h0
  have hk : k < xs.length := by omega
  exact ⟨xs[k], atK (by rw [List.getElem?_append_left hk]; exact List.getElem?_eq_getElem hk), h _ (List.getElem_mem hk)⟩
theorem allC {P : V → Prop} {x : V} {xs : List V} (h : P x) (t : ∀ y ∈ xs, P y) : ∀ y ∈ x :: xs, P y := List.forall_mem_cons.mpr ⟨h, t⟩
theorem allN {P : V → Prop} : ∀ y ∈ ([] : List V), P y := fun _ h => by cases h
theorem pickA {P : V → Prop} {xs : List V} {n : Int} (h : ∀ x ∈ xs, P x) (h0 : 0 ≤ n) (h1 : n < xs.length) : ∃ x, atI xs n = some x ∧ P x := by
  have := pickP [] h h0 h1
  rwa [List.append_nil] at this
end My

/-! ### texts: signs, pieces -/
namespace My
open PySem L2
theorem at_some {α : Type} {xs : List α} {i : Int} (h0 : 0 ≤ i) (h1 : i < xs.length) : ∃ c, atI xs i = some c ∧ c ∈ xs := by
  obtain ⟨k, rfl⟩ := Int.eq_ofNat_of_zero_le h0
  have hk : k < xs.length := by omega
  refine ⟨xs[k], ?_, List.getElem_mem hk⟩
  unfold atI
  rw [ixN_nat hk]
  exact List.getElem?_eq_getElem hk
theorem strOk_iff {x : Str} : PyData.strOk x = true ↔ ∀ c ∈ x.cps.toList, c < 0x110000 := by
  unfold PyData.strOk
  rw [← Array.all_toList, List.all_eq_true]
  exact ⟨fun h c hc => of_decide_eq_true (h c hc), fun h c hc => decide_eq_true (h c hc)⟩
theorem strOk_one {c : Nat} (h : c < 0x110000) : PyData.strOk ⟨#[c]⟩ = true := strOk_iff.mpr fun d hd => by
  rw [List.mem_singleton.mp hd]; exact h
theorem strOk_append {x y : Str} (hx : PyData.strOk x = true) (hy : PyData.strOk y = true) : PyData.strOk (x ++ y) = true := strOk_iff.mpr fun c hc => by
  have : c ∈ (x.cps ++ y.cps).toList := hc
  rw [Array.toList_append] at this
  rcases List.mem_append.mp this with h | h
  · exact strOk_iff.mp hx c h
  · exact strOk_iff.mp hy c h
theorem strOk_cut {x : Str} {lo hi : Option Int} (hx : PyData.strOk x = true) : PyData.strOk (cutS x lo hi) = true := strOk_iff.mpr fun c hc => by
  have : c ∈ (x.cps.toList.drop (HT.sIx x.length 0 lo)).take (HT.sIx x.length x.length hi - HT.sIx x.length 0 lo) := hc
  exact strOk_iff.mp hx c (List.mem_of_mem_drop (List.mem_of_mem_take this))
theorem str_sign {x : Str} {i : Int} (h0 : 0 ≤ i) (h1 : i < x.length) (ok : PyData.strOk x = true) : ∃ c, atI x.cps.toList i = some c ∧ PyData.strOk ⟨#[c]⟩ = true := by
  obtain ⟨c, h, m⟩ := at_some (xs := x.cps.toList) h0 (by rw [Array.length_toList]; exact h1)
  exact ⟨c, h, strOk_one (strOk_iff.mp ok c m)⟩
end My

/-! ### a plain thing != [] -/
namespace PySem.SeqAt
open MeetsSeq MeetsSeq2 MeetsSeq3
theorem my_list_ne_declines_dict (l b : Addr) (items : Array Value) (n : Nat) (dd : Option Addr) (sl : Array (Option Value)) (o : Obj) (ho : o.cls = .type "dict") :
    Meets (Builtin.«list.__ne__» ⟨[.ref l, .ref b], []⟩) (fun _ R s => s.heap.get? l = some { cls := .type "list", dict := dd, data := .seq items n, slots := sl } ∧ s.heap.get? b = some o ∧ R (.ok (.ret .notImplemented)) s) :=
  .of_wp fun prog w A R s h => by obtain ⟨hp, g, d, tk, os⟩ := s; obtain ⟨hl, hb, h⟩ := h; obtain ⟨cls, dd2, data2, sl2⟩ := o; subst ho; have f1 := F.sub_dict_list; wp_walk using _root_.PySem.AutoSeq1.wpAny_loadPart' hl, _root_.PySem.AutoSeq1.wpAny_loadPart' hb; exact ⟨_, rfl, h⟩
theorem my_dict_ne_declines {M : Unit} {prog : Program} {w : World} {A : Around} {E Q : Value → Shared → Prop} {s : Shared} {a b : Addr} (da : s.TypeIs (.ref a) "dict") (tb : s.TypeIs (.ref b) "list") (h : Q .notImplemented s) :
    wpAny (model prog w) A (call (.builtin "dict.__ne__") [.ref a, .ref b]) Q E s := by
  refine wpAny_call_entry PySem.F.slot_dict_ne da PySem.F.entry_dict_ne ?_ (PySem.F.args_dict_ne_2 _ _)
  show wpAny _ _ (Builtin.Dict.dictSlotArgs "__ne__" ⟨[.ref a, .ref b], []⟩ >>= _) _ _ s
  refine wpAny_bind ?_
  unfold Builtin.Dict.dictSlotArgs
  refine wpAny_bind (wpAny_notOrdered_dict da ?_)
  show wpAny _ _ (pure (Value.ref a, Value.ref b)) _ _ s
  refine wpAny_pure ?_
  refine wpAny_bind (wpAny_isInstance (T := "list") tb PySem.F.sub_list_dict ?_)
  simp only [Bool.not_false, if_true]
  exact wpAny_bind (wpAny_rule (wpAny_pure ⟨_, rfl, h⟩))
theorem RcNeAt.my_dict_list {A : Around} {s : Shared} {l b : Addr} {o : Obj} {items2 : Array Value} (ho : s.heap.get? l = some o) (oc : o.cls = .type "dict") (hb : s.heap.IsList b items2) (hu : A.units < cLine) : RcNeAt A s (.ref l) (.ref b) true := fun prog w E Q h => by
  obtain ⟨⟨cls2, dd2, data2, sl2⟩, ho2, hc2, n2, hd2⟩ := id hb
  simp only at hc2 hd2
  subst hc2 hd2
  have hne : l ≠ b := fun e => by subst e; rw [ho] at ho2; cases ho2; exact absurd oc (by simp)
  exact (rc_ne_decline_or (k := false) ⟨_, ho, oc⟩ ⟨_, ho2, rfl⟩ (by decide) F.sub_list_dict F.slot_dict_ne F.slot_list_ne_refl
    (fun _ hq => my_dict_ne_declines (M := ()) ⟨_, ho, oc⟩ ⟨_, ho2, rfl⟩ hq)
    (fun _ hq => call_meets F.slot_list_ne_refl ⟨_, ho2, rfl⟩ F.entry_list_ne (F.args_list_ne_2 _ _) (my_list_ne_declines_dict b l items2 n2 dd2 sl2 o oc) ⟨ho2, ho, hq⟩)
    (fun _ hq => wpAny_isSame_ref_other' hne ho ho2 (by simp) hq) (.inr hu) h)
end PySem.SeqAt
namespace My
open PySem PySem.Spec PyProof.Rows L2
def rNe0 (K : PySem.W.Frag) : R2 := fun x y H Q => ∃ b, y = .ref b ∧ SqL K H b [] ∧ ((∃ ty, Ty7 H x ty ∧ ty ≠ "list" ∧ Q (.bl true) H) ∨ ∃ a xs, x = .ref a ∧ SqL K H a xs ∧ Q (.bl (!xs.isEmpty)) H)
theorem op_ne0 {X : Cx} (hu : X.A.units + 64 < cLine) : OpR X (compareOp .NotEq) (rNe0 X.K) := by
  intro pins s σ H x y v u Q I rx ry h
  obtain ⟨b, rfl, hb, h⟩ := h
  cases (show u = Value.ref b from ry)
  obtain ⟨ws, r2, p2, _⟩ := I.list hb
  have h1 : X.A.units < cLine := by omega
  cases r2
  rcases h with ⟨ty, h7, n, q⟩ | ⟨a, xs, rfl, ha, q⟩
  · suffices hh : SeqAt.RcNeAt X.A s v (.ref b) true from hh _ _ _ _ ⟨.bl true, H, I, rfl, q⟩
    cases h7 with
    | non => cases (show v = Value.none from rx); exact (SeqAt.RcNeAt.none_list p2.isList h1)
    | bl t => cases (show v = Value.bool t from rx); exact (SeqAt.RcNeAt.bool_list t p2.isList h1)
    | int i => obtain ⟨tk, rfl⟩ := (show ∃ tk, v = Value.int i tk from rx); exact (SeqAt.RcNeAt.int_list i tk p2.isList h1)
    | str i => obtain ⟨tk, rfl⟩ := (show ∃ tk, v = Value.str i tk from rx); exact (SeqAt.RcNeAt.str_list i tk p2.isList h1)
    | lst g => exact absurd rfl n
    | @tup c zs g =>
      cases (show v = Value.ref c from rx)
      obtain ⟨us, r1, p1, _⟩ := I.tuple (sqT g)
      exact (SeqAt.RcNeAt.tuple_list p1 p2.isList h1)
    | @dK c kvs g =>
      cases (show v = Value.ref c from rx)
      obtain ⟨_, _, vs, _, d⟩ := I.hok _ _ g
      obtain ⟨o, ho, oc⟩ := d.typeIs
      exact (SeqAt.RcNeAt.my_dict_list ho oc p2.isList h1)
  · cases (show v = Value.ref a from rx)
    obtain ⟨us, r1, p1, _⟩ := I.list ha
    cases xs with
    | nil =>
      cases r1
      have k := SeqAt.RcNeAt.lists (e := fun _ => true) p1.isList p2.isList rfl h1 (fun j h1 h2 => absurd h1 (Nat.not_lt_zero j))
      exact k _ _ _ _ ⟨.bl false, H, I, rfl, q⟩
    | cons x xs =>
      cases r1 with
      | cons a1 b1 =>
        have k := SeqAt.RcNeAt.lists_lengths p1.isList p2.isList (by simp) h1
        exact k _ _ _ _ ⟨.bl true, H, I, rfl, q⟩
theorem op_ne0K {X : Cx} {K : PySem.W.Frag} (hu : X.A.units + 64 < cLine) (h : X.K = K) : OpR X (compareOp .NotEq) (rNe0 K) := by subst h; exact op_ne0 hu
end My

namespace My
open PySem PySem.Spec PyProof.Rows L2
section
variable {P : Program} {w : World} {K : PySem.W.Frag} {mg : Str → Option Value} {base : Heap}
def sp_NoText_init (C : Addr) : Sp := fun vs H Q _ => ∃ (a : Addr) (x y : V), vs = [.ref a, x, y] ∧ H a = some (exo a C none) ∧ ∀ dx, H dx = none → dx ≠ a → Q .non (upd (upd H dx (exd dx [("line", y)])) a (exo a C (some dx)))
theorem bx_NoText_init (T : Tx w K mg) : ∃ ds, Vals ([.int 0] : List V) ds ∧ Binds K T.d_NoText_init.fd ["self", "why", "line"] ds :=
  T.d_NoText_init.FD.binds1 2 0 (by intro z; cases z) rfl (fun D kV doc pm an cdv ct us its h1 h2 => match us, its, h1, h2 with | [_, _], [_], _, _ => ⟨_, rfl, rfl⟩)
theorem ok_NoText_init (T : Tx w K mg) : FnOk P w K mg base CX0 1 T.d_NoText_init.f T.d_NoText_init.fd ["self", "why", "line"] (sp_NoText_init T.e_NoText.C) := by
  refine T.d_NoText_init.FD.ok sc_NoText_init (fun vs H Q E h => ?_) (fun cdv A outer s H vs Q E hr h => ?_)
  · obtain ⟨a, x, y, rfl, _⟩ := h
    rfl
  · obtain ⟨a, x, y, rfl, ha, k⟩ := h
    refine ⟨_, (pss_one (ps_ost (pv 0) (pv 2) rfl)), ?_⟩
    tm_at "rzs"
    exact ⟨a, _, rfl, T.d_NoText_init.T, T.n_NoText_line, .inl ⟨ha, fun dx n1 n2 => k dx n1 n2⟩⟩
end
end My
namespace My
open PySem PySem.Spec PyProof.Rows L2
section
variable {P : Program} {w : World} {K : PySem.W.Frag} {mg : Str → Option Value} {base : Heap}
def sp_is_whole : Sp := fun vs H Q _ => ∃ (x : V) (t : String), vs = [x] ∧ Ty7 H x t ∧ Q (.bl (isI x)) H
theorem ok_is_whole (T : Tx w K mg) : FnOk P w K mg base CX0 1 T.d_is_whole.f T.d_is_whole.fd ["thing"] (sp_is_whole) := by
  refine T.d_is_whole.F.ok sc_is_whole (fun vs H Q E h => ?_) (fun cdv A outer s H vs Q E hr h => ?_)
  · obtain ⟨x, t, rfl, _⟩ := h
    rfl
  · obtain ⟨x, t, rfl, ht, k⟩ := h
    refine ⟨_, (pss_one (ps_ret (pe_and (pe_callB is_int (by rfl) T.b_isinstance (by decide +kernel) (pa_cons (pv 0) (pa_cons (pe_bltn (v := .ty "int") (by rfl) T.b_int (by decide +kernel) rfl) pa_nil))) (pe_one (pe_not (pe_callB is_bool (by rfl) T.b_isinstance (by decide +kernel) (pa_cons (pv 0) (pa_cons (pe_bltn (v := .ty "bool") (by rfl) T.b_bool (by decide +kernel) rfl) pa_nil)))))))), ?_⟩
    tm_at "rds"
    refine ite2 (fun e => ?_) (fun e => ?_)
    · tm_at "rds"
      rw [isI_bool e]
      exact k
    · rw [isI_no e]
      exact k
end
end My
namespace My
open PySem PySem.Spec PyProof.Rows L2
section
variable {P : Program} {w : World} {K : PySem.W.Frag} {mg : Str → Option Value} {base : Heap}
def sp_is_from_nought : Sp := fun vs H Q _ => ∃ (x : V) (t : String), vs = [x] ∧ Ty7 H x t ∧ Q (.bl (isN x)) H
theorem ok_is_from_nought (T : Tx w K mg) : FnOk P w K mg base CX0 2 T.d_is_from_nought.f T.d_is_from_nought.fd ["thing"] (sp_is_from_nought) := by
  refine T.d_is_from_nought.F.ok sc_is_from_nought (fun vs H Q E h => ?_) (fun cdv A outer s H vs Q E hr h => ?_)
  · obtain ⟨x, t, rfl, _⟩ := h
    rfl
  · obtain ⟨x, t, rfl, ht, k⟩ := h
    refine ⟨_, (pss_one (ps_ret (pe_and (pe_call (ok_is_whole T) (hr.mono (by decide)) (by rfl) T.d_is_whole.g T.d_is_whole.F.kp T.d_is_whole.b .nil pass0 (pa_cons (pv 0) pa_nil)) (pe_one (pe_cmpR op_ge (pv 0) pe_int (nomark _)))))), ?_⟩
    refine ⟨_, rfl, x, t, rfl, ht, ?_⟩
    tm_at "rds"
    refine ite2 (fun e => ?_) (fun e => ?_)
    · obtain ⟨i, rfl⟩ := isI_of e
      tm_at "rds"
      exact k
    · have : false = isN x := by cases x <;> simp_all [isI, isN]
      rw [this]
      exact k
end
end My
namespace My
open PySem PySem.Spec PyProof.Rows L2
section
variable {P : Program} {w : World} {K : PySem.W.Frag} {mg : Str → Option Value} {base : Heap}
def sp_words_in : Sp := fun vs H Q _ => ∃ (l : List Nat), vs = [.str (sO l)] ∧ l.length ≤ 50000 ∧ New H (.lst ((wordsL l).map fun p => .str (sO p))) Q
theorem ok_words_in (T : Tx w K mg) : FnOk P w K mg base CX0 1 T.d_words_in.f T.d_words_in.fd ["part"] (sp_words_in) := by
  refine T.d_words_in.F.ok sc_words_in (fun vs H Q E h => ?_) (fun cdv A outer s H vs Q E hr h => ?_)
  · obtain ⟨l, rfl, _⟩ := h
    rfl
  · obtain ⟨l, rfl, hl, k⟩ := h
    refine ⟨_, (pss_one (ps_ret (pe_lc (own := [("word", 1)]) (g := gName 1) (by rfl) sc_words_in.nd (pi_listK (K := K) rfl (pe_splitN (pv 0) pe_str)) (blkOk_by (own := [("word", 1)]) (N := N_words_in) (sc := defScope s_words_in) (by decide +kernel)) (fun _ _ _ _ _ => (pg_name (i := 1) sc_words_in.nd rfl (Or.inl rfl))) (fun _ _ _ _ _ => (pts_one (pt_cmpR op_ne (pv 1) pe_str (nomark _)))) (fun _ _ _ _ _ => (pv 1))))), ?_⟩
    tm_at "rzs"
    refine ⟨⟨_, rfl⟩, l, 32, rfl, by rw [blank_eq], by decide, by rw [sizeLine_eq]; omega, fun p1 H1 f1 s1 g1 => ?_⟩
    have hcl := cut_len 32 l
    refine ⟨p1, rfl, ⟨_, sqL g1⟩, fun D hD => lcLf (K := K) (fun p => V.str (sO p)) (fun p => V.str (sO p)) (fun p => !p.isEmpty) hD (sqL g1) (by omega) (fun i y H2 Kt Kf hy s2 kt kf => ?_) (fun H2 s2 g2 => ?_)⟩
    · tm_at "rzs"
      rw [empty_dec]
      cases e : y.isEmpty with
      | true =>
        refine iteF' rfl ?_
        exact kf (by rw [e]; rfl) _ (Same.refl _)
      | false =>
        refine iteT' rfl ?_
        tm_at "rzs"
        exact kt (by rw [e]; rfl) _ (Same.refl _)
    · exact k D H2 (s1.free hD) (s1.trans s2) g2
end
end My
namespace My
open PySem PySem.Spec PyProof.Rows L2
section
variable {P : Program} {w : World} {K : PySem.W.Frag} {mg : Str → Option Value} {base : Heap}
theorem pickJ {P : V → Prop} {xs : List V} {n : Int} (h0 : 0 ≤ n) (h1 : n < (xs.length : Int)) (h : ∀ x ∈ xs, P x) : ∃ x, atI xs n = some x ∧ P x := by
  obtain ⟨j, rfl⟩ := Int.eq_ofNat_of_zero_le h0
  have hj : j < xs.length := by omega
  exact ⟨xs[j], atI_nat (List.getElem?_eq_getElem hj), h _ (List.getElem_mem hj)⟩
/-- no text: a plain thing -/
def NoStr (H : Hp) (v : V) : Prop := ∃ ty, Ty7 H v ty ∧ ty ≠ "str"
theorem NoStr.same {H H' : Hp} {v : V} (h : NoStr H v) (s : Same H H') : NoStr H' v := let ⟨ty, a, b⟩ := h; ⟨ty, a.mono s, b⟩
/-- it is refused as no text -/
def ErrT (cX : Addr) (H : Hp) (E : XK) : Prop := ∀ (dd : Addr) H', Same H H' → H' dd = some (.xd [("line", .int 0)]) → E (.ref cX) (some dd) H'
def sp_check_text (cX : Addr) : Sp := fun vs H Q E => ∃ (v : V), vs = [v] ∧ ((∃ l, v = .str l ∧ Q .non H) ∨ (NoStr H v ∧ ErrT cX H E))
theorem ok_check_text (T : Tx w K mg) : FnOk P w K mg base (L2N.CX P w) 3 T.d_check_text.f T.d_check_text.fd ["text"] (sp_check_text T.e_NoText.C) := by
  refine T.d_check_text.F.okN sc_check_text (fun vs H Q E h => ?_) (fun cdv A outer s H vs Q E hr h => ?_)
  · obtain ⟨v, rfl, _⟩ := h
    rfl
  · obtain ⟨v, rfl, h⟩ := h
    refine ⟨_, (pss_one (ps_if (pt_not (pt_val (pe_callB (call_isiK (K := K) rfl) (by rfl) T.b_isinstance (by decide +kernel) (pa_cons (pv 0) (pa_cons (pe_bltn (v := .ty "str") (by rfl) T.b_str (by decide +kernel) rfl) pa_nil)))))
      (pss_one (L2N.ps_raise rfl (L2N.takes_of rfl rfl rfl rfl) (pmk_oexN T.d_NoText_init.T T.d_NoText_init.i T.d_NoText_init.t (ok_NoText_init T) (hr.mono (by decide)) (Classical.choose_spec (bx_NoText_init T)).2 (Classical.choose_spec (bx_NoText_init T)).1 pass0 (by rfl) T.e_NoText.g (pa_cons pe_str pa_nil))))
      pss_nil)), ?_⟩
    tm_at "rzs"
    rcases h with ⟨l, rfl, k⟩ | ⟨⟨ty, hty, ns⟩, k⟩
    · refine ⟨_, _, _, _, _, rfl, .ty _, Ty7.tx (Ty7.str _), kit_ty (r := true) (by decide +kernel), ?_⟩
      tm_at "rzs"
      exact k
    · refine ⟨_, _, _, _, _, rfl, .ty _, hty.tx, kit_ty (r := false) (by rw [hty.ks, decide_eq_false ns]), ?_⟩
      tm_at "rzs"
      intro a fa
      refine ⟨a, _, _, rfl, upd_same, fun dx n1 n2 => ⟨rfl, dx, _, upd_same, (upd_ne n2).trans upd_same, ?_, ?_⟩⟩
      · rw [← n1, upd_ne n2]
      · refine k _ _ (fun c o ec => ?_) upd_same
        have ca : c ≠ a := ne_of_none ec fa
        have cd : c ≠ dx := fun z => by rw [z] at ec; rw [upd_ne n2, ec] at n1; cases n1
        rw [upd_ne cd, del_ne ca, upd_ne ca, upd_ne cd, upd_ne ca]
        exact ec
end
end My
namespace My
open PySem PySem.Spec PyProof.Rows L2
section
variable {P : Program} {w : World} {K : PySem.W.Frag} {mg : Str → Option Value} {base : Heap}
def sp_longest_in : Sp := fun vs H Q _ => ∃ (l : List Nat), vs = [.str (sO l)] ∧ l.length ≤ 50000 ∧ ∀ H', Same H H' → Q (.int (longL l : Nat)) H'
theorem ok_longest_in (T : Tx w K mg) : FnOk P w K mg base CX0 2 T.d_longest_in.f T.d_longest_in.fd ["text"] (sp_longest_in) := by
  refine T.d_longest_in.F.ok sc_longest_in (fun vs H Q E h => ?_) (fun cdv A outer s H vs Q E hr h => ?_)
  · obtain ⟨l, rfl, _⟩ := h
    rfl
  · obtain ⟨l, rfl, hl, k⟩ := h
    refine ⟨_, (pss_one (ps_ret (pe_callBK (cr_maxDefK (K := K) (by rfl) hr.units rfl) (by rfl) T.b_max (by decide +kernel) (pa_cons (pe_lc2 (own := [("part", 1), ("word", 2)]) (vs1 := [2]) (g := gName 1) (g1 := gName 2) (by rfl) sc_longest_in.nd (pi_listK (K := K) rfl (pe_splitN (pv 0) pe_str)) (blkOk_by (own := [("part", 1), ("word", 2)]) (N := N_longest_in) (sc := defScope s_longest_in) (by decide +kernel)) (by decide) (fun _ _ _ _ _ => (pg_name (i := 1) sc_longest_in.nd rfl (Or.inl rfl))) (fun _ _ _ _ _ => pts_nil) (fun _ _ _ _ _ => (pi_listK (K := K) rfl (pe_call (ok_words_in T) (hr.mono (by decide)) (by rfl) T.d_words_in.g T.d_words_in.F.kp T.d_words_in.b .nil pass0 (pa_cons (pv 1) pa_nil)))) (fun _ _ _ _ _ => (pg_name (i := 2) sc_longest_in.nd rfl (Or.inl rfl))) (fun _ _ _ _ _ => pts_nil) (fun _ _ _ _ _ => (pe_callB (call_lenK (K := K) rfl) (by rfl) T.b_len (by decide +kernel) (pa_cons (pv 2) pa_nil)))) pa_nil) (pk_cons pe_int pk_nil)))), ?_⟩
    tm_at "rzs"
    refine ⟨⟨_, rfl⟩, l, 10, rfl, by rw [feed_eq], by decide, by rw [sizeLine_eq]; omega, fun p1 H1 f1 s1 g1 => ?_⟩
    have tot : ((cut 10 l).flatMap wordsL).length ≤ 50000 := Nat.le_trans (flat_count _) (Nat.le_trans (cut_sum 10 l) hl)
    refine ⟨p1, rfl, ⟨_, sqL g1⟩, fun D hD => it_list (K := K) (xs := (cut 10 l).map fun p => V.str (sO p)) (fun i H' => Same H1 H' ∧ H' D = some (.lst ((((cut 10 l).take i).flatMap wordsL).map fun w => V.int (w.length : Nat)))) ⟨Same.upd0 hD, upd_same⟩ (fun i H' _ p => sqL (p.1 _ _ g1)) (fun i x H' hx p => ?_) (fun H' p => ?_)⟩
    · obtain ⟨sH, gD⟩ := p
      obtain ⟨y, hy, rfl⟩ := of_map hx
      have ly : y.length ≤ l.length := part_len (List.mem_of_getElem? hy)
      tm_at "rzs"
      intro pw H3 f3 s3 g3
      have nDw : pw ≠ D := (ne_of_none gD f3).symm
      have eT : ((cut 10 l).take (i + 1)).flatMap wordsL = ((cut 10 l).take i).flatMap wordsL ++ wordsL y := by
        rw [List.take_add_one, hy, List.flatMap_append]; simp
      have lT : (((cut 10 l).take (i + 1)).flatMap wordsL).length ≤ 50000 := Nat.le_trans (flat_take _ _ _) tot
      refine ⟨pw, rfl, ⟨_, sqL g3⟩, it_list (K := K) (xs := (wordsL y).map fun p => V.str (sO p)) (fun j H' => Same H1 H' ∧ H' pw = some (.lst ((wordsL y).map fun p => .str (sO p))) ∧ H' D = some (.lst ((((cut 10 l).take i).flatMap wordsL ++ (wordsL y).take j).map fun w => V.int (w.length : Nat)))) ⟨sH.trans s3, g3, by rw [List.take_zero, List.append_nil]; exact s3 _ _ gD⟩ (fun j H' _ p => sqL p.2.1) (fun j x H4 hx4 p4 => ?_) (fun H4 p4 => ?_)⟩
      · obtain ⟨s4, gw4, gD4⟩ := p4
        obtain ⟨w, hw, rfl⟩ := of_map hx4
        have lw : w.length ≤ 50000 := by
          have h1 := mem_sum (List.mem_of_getElem? hw)
          have h2 := words_sum y
          omega
        have lj : ((((cut 10 l).take i).flatMap wordsL) ++ (wordsL y).take j).length ≤ 50000 := by
          rw [eT, List.length_append] at lT
          rw [List.length_append, List.length_take]; omega
        tm_at "rzs"
        refine ⟨_, w.length, rfl, ⟨by show w.toArray.size ≤ sizeLine; rw [List.size_toArray, sizeLine_eq]; omega, by show w.length = w.toArray.size; rw [List.size_toArray]⟩, _, gD4, by rw [List.length_map, sizeLine_eq]; omega, Same.mut' s4 But.refl.upd hD, ?_, ?_⟩
        · rw [upd_ne nDw]; exact gw4
        · rw [upd_same, List.take_add_one, hw]
          simp only [Option.toList, List.append_assoc, List.map_append, List.map_cons, List.map_nil]
      · obtain ⟨s4, gw4, gD4⟩ := p4
        rw [List.length_map, List.take_length] at gD4
        exact ⟨s4, by rw [gD4, eT]⟩
    obtain ⟨s2, g2⟩ := p
    rw [List.length_map, List.take_length] at g2
    have g2 : H' D = some (.lst (((((cut 10 l).flatMap wordsL).map List.length).map Int.ofNat).map V.int)) := by rw [g2, List.map_map, List.map_map]; rfl
    tm_at "rzs"
    refine ⟨D, _, 0, rfl, rfl, sqL g2, ?_⟩
    rw [maxDef_N]
    exact k H' (s1.trans s2)
end
end My
namespace My
open PySem PySem.Spec PyProof.Rows L2
section
variable {P : Program} {w : World} {K : PySem.W.Frag} {mg : Str → Option Value} {base : Heap}
def sp_wished_in : Sp := fun vs H Q _ => ∃ (l : List Nat), vs = [.str (sO l)] ∧ l.length ≤ 50000 ∧ ∀ H', Same H H' → Q (.int (wishL l : Nat)) H'
theorem ok_wished_in (T : Tx w K mg) : FnOk P w K mg base CX0 2 T.d_wished_in.f T.d_wished_in.fd ["text"] (sp_wished_in) := by
  refine T.d_wished_in.F.ok sc_wished_in (fun vs H Q E h => ?_) (fun cdv A outer s H vs Q E hr h => ?_)
  · obtain ⟨l, rfl, _⟩ := h
    rfl
  · obtain ⟨l, rfl, hl, k⟩ := h
    refine ⟨_, (pss_one (ps_ret (pe_callB (cr_maxK (K := K) rfl rfl) (by rfl) T.b_max (by decide +kernel) (pa_cons (pe_lc (own := [("part", 1)]) (g := gName 1) (by rfl) sc_wished_in.nd (pi_listK (K := K) rfl (pe_splitN (pv 0) pe_str)) (blkOk_by (own := [("part", 1)]) (N := N_wished_in) (sc := defScope s_wished_in) (by decide +kernel)) (fun _ _ _ _ _ => (pg_name (i := 1) sc_wished_in.nd rfl (Or.inl rfl))) (fun _ _ _ _ _ => pts_nil) (fun _ _ _ _ _ => (pe_callB (call_lenK (K := K) rfl) (by rfl) T.b_len (by decide +kernel) (pa_cons (pe_joinN (K := K) rfl pe_str (pe_call (ok_words_in T) (hr.mono (by decide)) (by rfl) T.d_words_in.g T.d_words_in.F.kp T.d_words_in.b .nil pass0 (pa_cons (pv 1) pa_nil))) pa_nil)))) pa_nil)))), ?_⟩
    tm_at "rzs"
    refine ⟨⟨_, rfl⟩, l, 10, rfl, by rw [feed_eq], by decide, by rw [sizeLine_eq]; omega, fun p1 H1 f1 s1 g1 => ?_⟩
    have hcl := cut_len 10 l
    refine ⟨p1, rfl, ⟨_, sqL g1⟩, fun D hD => lcLm (K := K) (fun p => V.str (sO p)) (fun p => V.int ((joined p).length : Nat)) hD (sqL g1) (by omega) (fun i y H2 Kt Kf hy s2 kt => ?_) (fun H2 s2 g2 => ?_)⟩
    · have ly : y.length ≤ l.length := part_len (List.mem_of_getElem? hy)
      have hs := words_sum y
      have hc := words_count y
      have hj : (joined y).length ≤ 100000 := by
        unfold joined
        rw [joinL_len]; omega
      tm_at "rd"
      refine ⟨⟨_, rfl⟩, ?_⟩
      tm_at "rzs"
      intro pw H3 f3 s3 g3
      refine ⟨[32], pw, wordsL y, by rw [blank_eq], rfl, sqL g3, (by show _ + (wordsL y).length * 1 ≤ _; omega), ?_⟩
      tm_at "rzs"
      refine ⟨_, (joined y).length, rfl, ⟨by show (joined y).toArray.size ≤ sizeLine; rw [List.size_toArray, sizeLine_eq]; omega, by show (joined y).length = (joined y).toArray.size; rw [List.size_toArray]⟩, ?_⟩
      exact kt _ s3
    have g2 : H2 D = some (.lst ((((cut 10 l).map fun p => (joined p).length).map Int.ofNat).map V.int)) := by rw [g2, List.map_map, List.map_map]; rfl
    tm_at "rzs"
    refine ⟨D, _, rfl, sqL g2, ?_, fun m hm hg => ?_⟩
    · rw [List.length_map, List.length_map]
      obtain ⟨p, ps, e⟩ := cut_ne 10 l
      rw [e]; exact Nat.succ_pos _
    · rw [maxN_of hm hg]
      exact k H2 (s1.trans s2)
end
end My
namespace My
open PySem PySem.Spec PyProof.Rows L2
section
variable {P : Program} {w : World} {K : PySem.W.Frag} {mg : Str → Option Value} {base : Heap}
def sp_lines_of : Sp := fun vs H Q _ => ∃ (l : List Nat) (w : Nat), vs = [.str (sO l), .int (w : Int)] ∧ l.length ≤ 50000 ∧ New H (.lst ((linesL w l).map fun p => .str (sO p))) Q
theorem ok_lines_of (T : Tx w K mg) : FnOk P w K mg base CX0 2 T.d_lines_of.f T.d_lines_of.fd ["part", "wide"] (sp_lines_of) := by
  refine T.d_lines_of.F.ok sc_lines_of (fun vs H Q E h => ?_) (fun cdv A outer s H vs Q E hr h => ?_)
  · obtain ⟨l, w, rfl, _⟩ := h
    rfl
  · obtain ⟨l, w, rfl, hl, k⟩ := h
    refine ⟨_, (pss_cons (ps_set (i := 2) sc_lines_of.nd rfl (Or.inl rfl) (pe_lstA pa_nil))
      (pss_cons (ps_set (i := 3) sc_lines_of.nd rfl (Or.inl rfl) pe_str)
      (pss_cons (ps_for PassesOwn.never (by rfl) (pi_listK (K := K) rfl (pe_call (ok_words_in T) (hr.mono (by decide)) (by rfl) T.d_words_in.g T.d_words_in.F.kp T.d_words_in.b .nil pass0 (pa_cons (pv 0) pa_nil))) (pg_name (i := 4) sc_lines_of.nd rfl (Or.inl rfl))
      (pss_one (ps_if (PW.pt (pw_and (pt_cmpR op_ne (pv 3) pe_str (nomark _)) (pw_and1 (pt_cmpR op_le (pe_op op_add (pe_op op_add (pe_callB (call_lenK (K := K) rfl) (by rfl) T.b_len (by decide +kernel) (pa_cons (pv 3) pa_nil)) pe_int) (pe_callB (call_lenK (K := K) rfl) (by rfl) T.b_len (by decide +kernel) (pa_cons (pv 4) pa_nil))) (pv 1) (nomark _)))))
      (pss_one (ps_set (i := 3) sc_lines_of.nd rfl (Or.inl rfl) (pe_op op_add_str (pe_op op_add_str (pv 3) pe_str) (pv 4))))
      (pss_cons (ps_if (pt_cmpR op_ne (pv 3) pe_str (nomark _))
      (pss_one (ps_expr (pe_bm PySem.F.plainAttrs_list PySem.F.slot_list_append PySem.F.type_list_append mt_appendA (pv 2) (pa_cons (pv 3) pa_nil))))
      pss_nil)
      (pss_one (ps_set (i := 3) sc_lines_of.nd rfl (Or.inl rfl) (pv 4)))))))
      (pss_one (ps_ret (pe_op (op_catK (K := K) rfl) (pv 2) (pe_lstA (pa_cons (pv 3) pa_nil)))))))), ?_⟩
    tm_at "rzs"
    intro p1 H1 f1 s1 g1
    tm_at "rzs"
    intro pw H2 f2 s2 g2
    have n12 : p1 ≠ pw := ne_of_none g1 f2
    have wsum : ((wordsL l).map List.length).sum + (wordsL l).length ≤ 100000 := by
      have h1 := words_sum l
      have h2 := words_count l
      omega
    refine ⟨_, rfl, ⟨_, sqL g2⟩, ?_⟩
    refine for_list (K := K) (a := pw) (xs := (wordsL l).map fun p => V.str (sO p)) (fun i σ H' => ∃ (acc : List (List Nat)) (line : List Nat) (v4 : Option V), σ = [some (.str (sO l)), some (.int (w : Int)), some (.ref p1), some (.str (sO line)), v4] ∧ Same H H' ∧ H' pw = some (.lst ((wordsL l).map fun p => V.str (sO p))) ∧ H' p1 = some (.lst (acc.map fun p => V.str (sO p))) ∧ acc.length ≤ i ∧ line.length + (((wordsL l).drop i).map List.length).sum + ((wordsL l).drop i).length ≤ 100000 ∧ acc ++ lnsM w ((wordsL l).drop i) line = linesL w l)
      ⟨[], [], _, by rw [← empty_eq]; rfl, s1.trans s2, g2, s2 _ _ g1, Nat.zero_le _, by rw [List.drop_zero, List.length_nil, Nat.zero_add]; exact wsum, rfl⟩ (fun i σ H' _ ⟨_, _, _, _, _, g, _⟩ => sqL g) ?_ ?_
    · rintro i x σ H3 hx ⟨acc, line, v4, rfl, s3, gw, gf, la, ll, hm⟩
      obtain ⟨y, hy, rfl⟩ := of_map hx
      have hi := (List.getElem?_eq_some_iff.mp hy).1
      have hil : i < 100000 := by have := words_count l; omega
      have hd : (wordsL l).drop i = y :: (wordsL l).drop (i + 1) := List.drop_eq_getElem_cons hi |>.trans (by rw [(List.getElem?_eq_some_iff.mp hy).2])
      rw [hd] at hm ll
      rw [List.map_cons, List.sum_cons, List.length_cons] at ll
      have hm : acc ++ (if line.isEmpty = true then lnsM w ((wordsL l).drop (i + 1)) y else if line.length + 1 + y.length ≤ w then lnsM w ((wordsL l).drop (i + 1)) (line ++ 32 :: y) else line :: lnsM w ((wordsL l).drop (i + 1)) y) = linesL w l := hm
      have zl : line.length ≤ sizeLine := by rw [sizeLine_eq]; omega
      have zy : y.length ≤ sizeLine := by rw [sizeLine_eq]; omega
      dsimp only [gName]
      cases e : line.isEmpty with
      | true =>
        rw [if_pos e] at hm
        tm_at "rds"
        rw [empty_dec, e]
        refine iteF' rfl ?_
        tm_at "rds"
        rw [empty_dec, e]
        refine iteF' rfl ?_
        tm_at "rzs"
        exact ⟨acc, y, _, rfl, s3, gw, gf, by omega, by omega, hm⟩
      | false =>
        rw [if_neg (by rw [e]; decide)] at hm
        tm_at "rds"
        rw [empty_dec, e]
        refine iteT' rfl ?_
        tm_at "rds"
        refine ⟨_, line.length, rfl, ⟨by show line.toArray.size ≤ sizeLine; rw [List.size_toArray]; exact zl, by show line.length = line.toArray.size; rw [List.size_toArray]⟩, ?_⟩
        tm_at "rds"
        refine ⟨_, y.length, rfl, ⟨by show y.toArray.size ≤ sizeLine; rw [List.size_toArray]; exact zy, by show y.length = y.toArray.size; rw [List.size_toArray]⟩, ?_⟩
        tm_at "rds"
        by_cases ef : line.length + 1 + y.length ≤ w
        · rw [if_pos ef] at hm
          refine iteT' (decide_eq_true (by omega)) ?_
          tm_at "rds"
          refine ⟨by rw [blank_eq, show (⟨#[32]⟩ : Str) = sO [32] from rfl, sO_len, sO_len, sizeLine_eq]; show line.length + 1 ≤ _; omega, ?_⟩
          rw [blank_eq, show (⟨#[32]⟩ : Str) = sO [32] from rfl, sO_append]
          tm_at "rds"
          refine ⟨by rw [sO_len, sO_len, List.length_append, sizeLine_eq]; show line.length + 1 + y.length ≤ _; omega, ?_⟩
          rw [sO_append]
          exact ⟨acc, line ++ 32 :: y, _, by rw [List.append_assoc]; rfl, s3, gw, gf, by omega, by rw [List.length_append, List.length_cons]; omega, hm⟩
        · rw [if_neg ef] at hm
          refine iteF' (decide_eq_false (by omega)) ?_
          tm_at "rds"
          rw [empty_dec, e]
          refine iteT' rfl ?_
          tm_at "rzs"
          refine ⟨_, _, _, rfl, rfl, gf, by rw [List.length_map, sizeLine_eq]; omega, fun H4 b4 g4 => ?_⟩
          tm_at "rzs"
          exact ⟨acc ++ [line], y, _, rfl, Same.mut' s3 b4 f1, b4 _ _ n12.symm gw, by rw [g4, List.map_append]; rfl, by rw [List.length_append]; exact Nat.succ_le_succ la, by omega, by rw [List.append_assoc]; exact hm⟩
    · rintro σ H3 ⟨acc, line, v4, rfl, s3, gw, gf, la, ll, hm⟩
      rw [List.length_map, List.drop_length] at hm
      rw [List.length_map] at la
      tm_at "rzs"
      intro p4 H4 f4 s4 g4
      have hc := words_count l
      refine ⟨_, _, _, _, rfl, rfl, s4 _ _ gf, g4, by rw [List.length_map, sizeLine_eq]; show acc.length + 1 ≤ _; omega, fun p5 H5 f5 s5 g5 => ?_⟩
      refine k p5 H5 ((s3.trans s4).free f5) ((s3.trans s4).trans s5) ?_
      rw [g5, ← hm, List.map_append]; rfl
end
end My
namespace My
open PySem PySem.Spec PyProof.Rows L2
section
variable {P : Program} {w : World} {K : PySem.W.Frag} {mg : Str → Option Value} {base : Heap}
def sp_wrapped_in : Sp := fun vs H Q _ => ∃ (l : List Nat) (w : Nat), vs = [.str (sO l), .int (w : Int)] ∧ l.length ≤ 50000 ∧ New H (.lst ((wrapL w l).map fun p => .str (sO p))) Q
theorem ok_wrapped_in (T : Tx w K mg) : FnOk P w K mg base CX0 3 T.d_wrapped_in.f T.d_wrapped_in.fd ["text", "wide"] (sp_wrapped_in) := by
  refine T.d_wrapped_in.F.ok sc_wrapped_in (fun vs H Q E h => ?_) (fun cdv A outer s H vs Q E hr h => ?_)
  · obtain ⟨l, w, rfl, _⟩ := h
    rfl
  · obtain ⟨l, w, rfl, hl, k⟩ := h
    refine ⟨_, (pss_one (ps_ret (pe_lc2 (own := [("part", 2), ("line", 3)]) (vs1 := [3]) (g := gName 2) (g1 := gName 3) (by rfl) sc_wrapped_in.nd (pi_listK (K := K) rfl (pe_splitN (pv 0) pe_str)) (blkOk_by (own := [("part", 2), ("line", 3)]) (N := N_wrapped_in) (sc := defScope s_wrapped_in) (by decide +kernel)) (by decide) (fun _ _ _ _ _ => (pg_name (i := 2) sc_wrapped_in.nd rfl (Or.inl rfl))) (fun _ _ _ _ _ => pts_nil) (fun _ _ _ _ _ => (pi_listK (K := K) rfl (pe_call (ok_lines_of T) (hr.mono (by decide)) (by rfl) T.d_lines_of.g T.d_lines_of.F.kp T.d_lines_of.b .nil pass0 (pa_cons (pv 2) (pa_cons (pv 1) pa_nil))))) (fun _ _ _ _ _ => (pg_name (i := 3) sc_wrapped_in.nd rfl (Or.inl rfl))) (fun _ _ _ _ _ => pts_nil) (fun _ _ _ _ _ => (pv 3))))), ?_⟩
    tm_at "rzs"
    refine ⟨⟨_, rfl⟩, l, 10, rfl, by rw [feed_eq], by decide, by rw [sizeLine_eq]; omega, fun p1 H1 f1 s1 g1 => ?_⟩
    have tot : ((cut 10 l).flatMap (linesL w)).length ≤ 100001 := by
      have := wrapL_len w l
      unfold wrapL at this; omega
    refine ⟨p1, rfl, ⟨_, sqL g1⟩, fun D hD => it_list (K := K) (xs := (cut 10 l).map fun p => V.str (sO p)) (fun i H' => Same H1 H' ∧ H' D = some (.lst ((((cut 10 l).take i).flatMap (linesL w)).map fun w => V.str (sO w)))) ⟨Same.upd0 hD, upd_same⟩ (fun i H' _ p => sqL (p.1 _ _ g1)) (fun i x H' hx p => ?_) (fun H' p => ?_)⟩
    · obtain ⟨sH, gD⟩ := p
      obtain ⟨y, hy, rfl⟩ := of_map hx
      have ly : y.length ≤ l.length := part_len (List.mem_of_getElem? hy)
      tm_at "rzs"
      intro pw H3 f3 s3 g3
      have nDw : pw ≠ D := (ne_of_none gD f3).symm
      have eT : ((cut 10 l).take (i + 1)).flatMap (linesL w) = ((cut 10 l).take i).flatMap (linesL w) ++ linesL w y := by
        rw [List.take_add_one, hy, List.flatMap_append]; simp
      have lT : (((cut 10 l).take (i + 1)).flatMap (linesL w)).length ≤ 100001 := Nat.le_trans (flat_take _ _ _) tot
      refine ⟨pw, rfl, ⟨_, sqL g3⟩, it_list (K := K) (xs := (linesL w y).map fun p => V.str (sO p)) (fun j H' => Same H1 H' ∧ H' pw = some (.lst ((linesL w y).map fun p => .str (sO p))) ∧ H' D = some (.lst ((((cut 10 l).take i).flatMap (linesL w) ++ (linesL w y).take j).map fun w => V.str (sO w)))) ⟨sH.trans s3, g3, by rw [List.take_zero, List.append_nil]; exact s3 _ _ gD⟩ (fun j H' _ p => sqL p.2.1) (fun j x H4 hx4 p4 => ?_) (fun H4 p4 => ?_)⟩
      · obtain ⟨s4, gw4, gD4⟩ := p4
        obtain ⟨w', hw, rfl⟩ := of_map hx4
        have lj : ((((cut 10 l).take i).flatMap (linesL w)) ++ (linesL w y).take j).length ≤ 100001 := by
          rw [eT, List.length_append] at lT
          rw [List.length_append, List.length_take]; omega
        tm_at "rzs"
        refine ⟨_, gD4, by rw [List.length_map, sizeLine_eq]; omega, Same.mut' s4 But.refl.upd hD, ?_, ?_⟩
        · rw [upd_ne nDw]; exact gw4
        · rw [upd_same, List.take_add_one, hw]
          simp only [Option.toList, List.append_assoc, List.map_append, List.map_cons, List.map_nil]
      · obtain ⟨s4, gw4, gD4⟩ := p4
        rw [List.length_map, List.take_length] at gD4
        exact ⟨s4, by rw [gD4, eT]⟩
    obtain ⟨s2, g2⟩ := p
    rw [List.length_map, List.take_length] at g2
    exact k D H' (s1.free hD) (s1.trans s2) g2
end
end My
namespace My
open PySem PySem.Spec PyProof.Rows L2
section
variable {P : Program} {w : World} {K : PySem.W.Frag} {mg : Str → Option Value} {base : Heap}
theorem kb_longest_0_text (T : Tx w K mg) : KBn K T.d_longest.fd ["text"] 0 ["text"] (fun us ws => [ws.getD 0 .none]) (fun vs zs => [zs.getD 0 .non]) := by
  obtain ⟨oc, od, kV, doc, pm, an, cdv, ct, osl, e, _, _⟩ := T.d_longest.F.ex
  refine ⟨fun s us ws _ h1 h2 => ?_, fun r1 r2 => (.cons (vals_getD r2 0) .nil)⟩
  rw [e]
  exact match us, ws, h1, h2 with | [], [_], _, _ => .of_eq rfl
def sp_longest (cX : Addr) : Sp := fun vs H Q E => ∃ (v : V), vs = [v] ∧ ((∃ l : List Nat, v = .str (sO l) ∧ l.length ≤ 50000 ∧ ∀ H', Same H H' → Q (.int (longL l : Nat)) H') ∨ (NoStr H v ∧ ErrT cX H E))
theorem ok_longest (T : Tx w K mg) : FnOk P w K mg base (L2N.CX P w) 4 T.d_longest.f T.d_longest.fd ["text"] (sp_longest T.e_NoText.C) := by
  refine T.d_longest.F.okN sc_longest (fun vs H Q E h => ?_) (fun cdv A outer s H vs Q E hr h => ?_)
  · obtain ⟨v, rfl, _⟩ := h
    rfl
  · obtain ⟨v, rfl, h⟩ := h
    refine ⟨_, (pss_cons (ps_expr (pe_call (ok_check_text T) (hr.mono (by decide)) (by rfl) T.d_check_text.g T.d_check_text.F.kp T.d_check_text.b .nil (L2N.passes_call (L2N.takes_of rfl rfl rfl rfl) (fun _ _ _ _ h => h)) (pa_cons (pv 0) pa_nil)))
      (pss_one (ps_ret (pe_call (ok_longest_in T) (hr.mono (by decide)) (by rfl) T.d_longest_in.g T.d_longest_in.F.kp T.d_longest_in.b .nil pass0 (pa_cons (pv 0) pa_nil))))), ?_⟩
    tm_at "rzs"
    rcases h with ⟨l, rfl, hl, k⟩ | ⟨hn, k⟩
    · refine .inl ⟨_, rfl, ?_⟩
      tm_at "rzs"
      exact k
    · exact .inr ⟨hn, k⟩
end
end My
namespace My
open PySem PySem.Spec PyProof.Rows L2
section
variable {P : Program} {w : World} {K : PySem.W.Frag} {mg : Str → Option Value} {base : Heap}
theorem kb_wished_0_text (T : Tx w K mg) : KBn K T.d_wished.fd ["text"] 0 ["text"] (fun us ws => [ws.getD 0 .none]) (fun vs zs => [zs.getD 0 .non]) := by
  obtain ⟨oc, od, kV, doc, pm, an, cdv, ct, osl, e, _, _⟩ := T.d_wished.F.ex
  refine ⟨fun s us ws _ h1 h2 => ?_, fun r1 r2 => (.cons (vals_getD r2 0) .nil)⟩
  rw [e]
  exact match us, ws, h1, h2 with | [], [_], _, _ => .of_eq rfl
def sp_wished (cX : Addr) : Sp := fun vs H Q E => ∃ (v : V), vs = [v] ∧ ((∃ l : List Nat, v = .str (sO l) ∧ l.length ≤ 50000 ∧ ∀ H', Same H H' → Q (.int (wishL l : Nat)) H') ∨ (NoStr H v ∧ ErrT cX H E))
theorem ok_wished (T : Tx w K mg) : FnOk P w K mg base (L2N.CX P w) 4 T.d_wished.f T.d_wished.fd ["text"] (sp_wished T.e_NoText.C) := by
  refine T.d_wished.F.okN sc_wished (fun vs H Q E h => ?_) (fun cdv A outer s H vs Q E hr h => ?_)
  · obtain ⟨v, rfl, _⟩ := h
    rfl
  · obtain ⟨v, rfl, h⟩ := h
    refine ⟨_, (pss_cons (ps_expr (pe_call (ok_check_text T) (hr.mono (by decide)) (by rfl) T.d_check_text.g T.d_check_text.F.kp T.d_check_text.b .nil (L2N.passes_call (L2N.takes_of rfl rfl rfl rfl) (fun _ _ _ _ h => h)) (pa_cons (pv 0) pa_nil)))
      (pss_one (ps_ret (pe_call (ok_wished_in T) (hr.mono (by decide)) (by rfl) T.d_wished_in.g T.d_wished_in.F.kp T.d_wished_in.b .nil pass0 (pa_cons (pv 0) pa_nil))))), ?_⟩
    tm_at "rzs"
    rcases h with ⟨l, rfl, hl, k⟩ | ⟨hn, k⟩
    · refine .inl ⟨_, rfl, ?_⟩
      tm_at "rzs"
      exact k
    · exact .inr ⟨hn, k⟩
end
end My
namespace My
open PySem PySem.Spec PyProof.Rows L2
section
variable {P : Program} {w : World} {K : PySem.W.Frag} {mg : Str → Option Value} {base : Heap}
theorem kb_wrapped_0_wide_text (T : Tx w K mg) : KBn K T.d_wrapped.fd ["text", "wide"] 0 ["wide", "text"] (fun us ws => [ws.getD 1 .none, ws.getD 0 .none]) (fun vs zs => [zs.getD 1 .non, zs.getD 0 .non]) := by
  obtain ⟨oc, od, kV, doc, pm, an, cdv, ct, osl, e, _, _⟩ := T.d_wrapped.F.ex
  refine ⟨fun s us ws _ h1 h2 => ?_, fun r1 r2 => (.cons (vals_getD r2 1) (.cons (vals_getD r2 0) .nil))⟩
  rw [e]
  exact match us, ws, h1, h2 with | [], [_, _], _, _ => .of_eq rfl
def sp_wrapped (cX cN : Addr) : Sp := fun vs H Q E => ∃ (v w : V), vs = [v, w] ∧ ((NoStr H v ∧ ErrT cX H E) ∨ ∃ l : List Nat, v = .str (sO l) ∧ l.length ≤ 50000 ∧ ((∃ m : Nat, w = .int (m : Int) ∧ New H (.lst ((wrapL m l).map fun p => .str (sO p))) Q) ∨ (isN w = false ∧ (∃ ty, Ty7 H w ty) ∧ ∀ H', Same H H' → E (.ref cN) none H')))
theorem ok_wrapped (T : Tx w K mg) : FnOk P w K mg base (L2N.CX P w) 4 T.d_wrapped.f T.d_wrapped.fd ["text", "wide"] (sp_wrapped T.e_NoText.C T.e_NoNumber.C) := by
  refine T.d_wrapped.F.okN sc_wrapped (fun vs H Q E h => ?_) (fun cdv A outer s H vs Q E hr h => ?_)
  · obtain ⟨v, w, rfl, _⟩ := h
    rfl
  · obtain ⟨v, w, rfl, h⟩ := h
    refine ⟨_, (pss_cons (ps_expr (pe_call (ok_check_text T) (hr.mono (by decide)) (by rfl) T.d_check_text.g T.d_check_text.F.kp T.d_check_text.b .nil (L2N.passes_call (L2N.takes_of rfl rfl rfl rfl) (fun _ _ _ _ h => h)) (pa_cons (pv 0) pa_nil)))
      (pss_cons (ps_if (pt_not (pt_val (pe_call (ok_is_from_nought T) (hr.mono (by decide)) (by rfl) T.d_is_from_nought.g T.d_is_from_nought.F.kp T.d_is_from_nought.b .nil pass0 (pa_cons (pv 1) pa_nil))))
      (pss_one (L2N.ps_raise rfl (L2N.takes_of rfl rfl rfl rfl) (L2N.pmk_own PySem.F.excBase_ValueError T.e_NoNumber.x T.e_NoNumber.g T.e_NoNumber.k (raises_own T.e_NoNumber.b T.e_NoNumber.t) rfl)))
      pss_nil)
      (pss_one (ps_ret (pe_call (ok_wrapped_in T) (hr.mono (by decide)) (by rfl) T.d_wrapped_in.g T.d_wrapped_in.F.kp T.d_wrapped_in.b .nil pass0 (pa_cons (pv 0) (pa_cons (pv 1) pa_nil))))))), ?_⟩
    tm_at "rzs"
    rcases h with ⟨hn, k⟩ | ⟨l, rfl, hl, h⟩
    · exact .inr ⟨hn, k⟩
    refine .inl ⟨_, rfl, ?_⟩
    rcases h with ⟨m, rfl, k⟩ | ⟨hn, ⟨ty, hty⟩, k⟩
    · tm_at "rzs"
      intro p H' f s' g
      exact k p H' f s' g
    · tm_at "rzs"
      refine iteT' (by rw [hn]; rfl) ?_
      exact k _ (Same.refl _)
end
end My
namespace My
open PySem PySem.Spec PyProof.Rows L2
section
variable {P : Program} {w : World} {K : PySem.W.Frag} {mg : Str → Option Value} {base : Heap}
def sp_w_cell_at (K : PySem.W.Frag) : Sp := fun vs H Q _ => ∃ (a : Addr) (ns : List Int), vs = [.ref a, .int 0] ∧ SqL K H a (ns.map V.int) ∧ ns.length ≤ 63 ∧ Q (.int (ns.headD 0)) H
theorem ok_w_cell_at (T : Tx w K mg) : FnOk P w K mg base CX0 1 T.d_w_cell_at.f T.d_w_cell_at.fd ["_law_script", "_law_k"] (sp_w_cell_at K) := by
  refine T.d_w_cell_at.F.ok sc_w_cell_at (fun vs H Q E h => ?_) (fun cdv A outer s H vs Q E hr h => ?_)
  · obtain ⟨x, t, rfl, _⟩ := h
    rfl
  · obtain ⟨a, ns, rfl, hS, hl, k⟩ := h
    refine ⟨_, (pss_cons (ps_if (pt_cmpR op_lt (pv 1) (pe_callB (call_lenK (K := K) rfl) (by rfl) T.b_len (by decide +kernel) (pa_cons (pv 0) pa_nil)) (nomark _))
      (pss_one (ps_ret (pe_ix (ix_seqK (K := K) rfl) (pv 0) (pv 1) (fun _ _ => rfl))))
      pss_nil)
      (pss_one (ps_ret pe_int))), ?_⟩
    refine ⟨_, rfl, _, rfl, _, _, rfl, .inl ⟨_, hS, rfl⟩, _, _, rfl, rfl, _, rfl, ite2 (fun e => ?_) (fun e => ?_)⟩
    · cases ns with
      | nil => simp at e
      | cons z r => exact ⟨_, rfl, _, rfl, .inl ⟨_, _, _, _, rfl, rfl, hS, atI_nat (j := 0) rfl, k⟩⟩
    · cases ns with
      | nil => exact k
      | cons z r => simp at e
end
end My
namespace My
open PySem PySem.Spec PyProof.Rows L2
section
variable {P : Program} {w : World} {K : PySem.W.Frag} {mg : Str → Option Value} {base : Heap}
def sp_w_mixed : Sp := fun vs H Q _ => ∃ (c k : Int), vs = [.int c, .int k] ∧ ∀ n : Int, 0 ≤ n → Q (.int n) H
theorem ok_w_mixed (T : Tx w K mg) : FnOk P w K mg base CX0 1 T.d_w_mixed.f T.d_w_mixed.fd ["_law_cell", "_law_k"] (sp_w_mixed) := by
  refine T.d_w_mixed.F.ok sc_w_mixed (fun vs H Q E h => ?_) (fun cdv A outer s H vs Q E hr h => ?_)
  · obtain ⟨x, t, rfl, _⟩ := h
    rfl
  · obtain ⟨c, j, rfl, k⟩ := h
    refine ⟨_, (pss_cons (ps_set (i := 2) sc_w_mixed.nd rfl (Or.inl rfl) (pe_op op_add (pe_op op_mod (pv 0) pe_int) (pe_op op_mul (pe_op op_fdivW (pv 0) pe_int) pe_int)))
      (pss_cons (ps_set (i := 2) sc_w_mixed.nd rfl (Or.inl rfl) (pe_op op_mod (pe_op op_mul (pe_op op_add (pe_op op_add (pv 2) (pe_op op_mul pe_int (pv 1))) pe_int) pe_int) pe_int))
      (pss_cons (ps_set (i := 2) sc_w_mixed.nd rfl (Or.inl rfl) (pe_op op_mod (pe_op op_mul (pv 2) (pe_op op_add (pe_op op_add (pe_op op_fdivW (pv 2) pe_int) pe_int) (pv 1))) pe_int))
      (pss_one (ps_ret (pe_op op_mod (pe_op op_mul (pv 2) (pe_op op_add (pe_op op_fdivW (pv 2) pe_int) pe_int)) pe_int)))))), ?_⟩
    tm_at "rds"
    refine k _ ?_
    exact Int.emod_nonneg _ (by decide)
end
end My
namespace My
open PySem PySem.Spec PyProof.Rows L2
section
variable {P : Program} {w : World} {K : PySem.W.Frag} {mg : Str → Option Value} {base : Heap}
def sp_w_source : Sp := fun vs H Q _ => ∃ (c : Int), vs = [.int c] ∧ New H (src (c, c, 0)) Q
theorem ok_w_source (T : Tx w K mg) : FnOk P w K mg base CX0 1 T.d_w_source.f T.d_w_source.fd ["_law_cell"] (sp_w_source) := by
  refine T.d_w_source.F.ok sc_w_source (fun vs H Q E h => ?_) (fun cdv A outer s H vs Q E hr h => ?_)
  · obtain ⟨x, rfl, _⟩ := h
    rfl
  · obtain ⟨c, rfl, k⟩ := h
    refine ⟨_, (pss_one (ps_ret (pe_lstA (pa_cons (pv 0) (pa_cons (pv 0) (pa_cons pe_int pa_nil)))))), ?_⟩
    refine ⟨_, rfl, _, rfl, (by show 3 ≤ sizeLine; decide), k⟩
end
end My
namespace My
open PySem PySem.Spec PyProof.Rows L2
section
variable {P : Program} {w : World} {K : PySem.W.Frag} {mg : Str → Option Value} {base : Heap}
def sp_w_next : Sp := fun vs H Q _ => ∃ (a : Addr) (m : Int), vs = [.ref a, .int m] ∧ Src H a ∧ 0 < m ∧ m < 2 ^ 64 ∧
  ∀ (n : Int) (H' : Hp), Dr a H H' → 0 ≤ n → n < m → Q (.int n) H'
theorem ok_w_next (T : Tx w K mg) : FnOk P w K mg base CX0 2 T.d_w_next.f T.d_w_next.fd ["_law_source_here", "_law_many"] (sp_w_next) := by
  refine T.d_w_next.F.ok sc_w_next (fun vs H Q E h => ?_) (fun cdv A outer s H vs Q E hr h => ?_)
  · obtain ⟨a, m, rfl, _⟩ := h
    rfl
  · obtain ⟨a, m, rfl, ⟨⟨c0, c1, c2⟩, hs⟩, m0, m1, k⟩ := h
    have hL : SqL K H a [.int c0, .int c1, .int c2] := sqL hs
    refine ⟨_, (pss_cons (ps_if (pt_cmpR op_ge (pe_ix (ix_seqK (K := K) rfl) (pv 0) pe_int (fun _ _ => rfl)) (pe_op op_pow pe_int pe_int) (nomark _))
      (pss_cons (ps_set (i := 2) sc_w_next.nd rfl (Or.inl rfl) (pe_op op_mod (pe_ix (ix_seqK (K := K) rfl) (pv 0) pe_int (fun _ _ => rfl)) (pv 1)))
      (pss_cons (ps_asg (pe_op op_fdivW (pe_ix (ix_seqK (K := K) rfl) (pv 0) pe_int (fun _ _ => rfl)) (pv 1)) (pg_sub (pv 0) pe_int set_listA))
      (pss_one (ps_ret (pv 2)))))
      pss_nil)
      (pss_cons (ps_asg (pe_op op_add (pe_ix (ix_seqK (K := K) rfl) (pv 0) pe_int (fun _ _ => rfl)) pe_int) (pg_sub (pv 0) pe_int set_listA))
      (pss_one (ps_ret (pe_op op_mod (pe_call (ok_w_mixed T) (hr.mono (by decide)) (by rfl) T.d_w_mixed.g T.d_w_mixed.F.kp T.d_w_mixed.b .nil pass0 (pa_cons (pe_ix (ix_seqK (K := K) rfl) (pv 0) pe_int (fun _ _ => rfl)) (pa_cons (pe_ix (ix_seqK (K := K) rfl) (pv 0) pe_int (fun _ _ => rfl)) pa_nil))) (pv 1)))))), ?_⟩
    refine ⟨_, rfl, .inl ⟨_, _, _, _, rfl, rfl, hL, atI_nat (j := 0) rfl, _, _, rfl, rfl, ⟨by decide, by decide, by decide⟩, _, _, rfl, rfl, _, rfl, ite2 (fun e => ?_) (fun e => ?_)⟩⟩
    · refine ⟨_, rfl, .inl ⟨_, _, _, _, rfl, rfl, hL, atI_nat (j := 0) rfl, ?_⟩⟩
      tm_at "rds"
      refine .inl ⟨_, _, _, _, rfl, rfl, hL, atI_nat (j := 0) rfl, ?_⟩
      tm_at "rds"
      refine ⟨_, _, _, _, rfl, rfl, hs, rfl, fun H1 B1 g1 => ?_⟩
      tm_at "rds"
      refine k _ _ ⟨⟨(c0 / m, c1, c2), g1⟩, B1⟩ ?_ ?_
      · exact Int.emod_nonneg _ (by omega)
      · exact Int.emod_lt_of_pos _ m0
    · refine ⟨_, rfl, .inl ⟨_, _, _, _, rfl, rfl, hL, atI_nat (j := 2) rfl, ?_⟩⟩
      tm_at "rds"
      refine ⟨_, _, _, _, rfl, rfl, hs, rfl, fun H1 B1 g1 => ?_⟩
      refine ⟨_, rfl, .inl ⟨_, _, _, _, rfl, rfl, sqL g1, atI_nat (j := 1) rfl, ?_⟩⟩
      refine ⟨_, rfl, .inl ⟨_, _, _, _, rfl, rfl, sqL g1, atI_nat (j := 2) rfl, ?_⟩⟩
      refine ⟨_, _, rfl, fun n n0 => ?_⟩
      tm_at "rds"
      refine k _ _ ⟨⟨(c0, c1, c2 + 1), g1⟩, B1⟩ ?_ ?_
      · exact Int.emod_nonneg _ (by omega)
      · exact Int.emod_lt_of_pos _ m0
end
end My
namespace My
open PySem PySem.Spec PyProof.Rows L2
section
variable {P : Program} {w : World} {K : PySem.W.Frag} {mg : Str → Option Value} {base : Heap}
def sp_w_word : Sp := fun vs H Q _ => ∃ (s : Addr), vs = [.ref s] ∧ Src H s ∧ ∀ (l : List Nat) (H' : Hp), Dr s H H' → 1 ≤ l.length → l.length ≤ 40 → (∀ c ∈ l, 33 ≤ c ∧ c < 127) → Q (.str (sO l)) H'
theorem ok_w_word (T : Tx w K mg) : FnOk P w K mg base CX0 3 T.d_w_word.f T.d_w_word.fd ["_law_source_here"] (sp_w_word) := by
  refine T.d_w_word.F.ok sc_w_word (fun vs H Q E h => ?_) (fun cdv A outer s H vs Q E hr h => ?_)
  · obtain ⟨s, rfl, _⟩ := h
    rfl
  · obtain ⟨s, rfl, hs, k⟩ := h
    refine ⟨_, (pss_cons (ps_set (i := 1) sc_w_word.nd rfl (Or.inr rfl) pe_str)
      (pss_cons (ps_set (i := 2) sc_w_word.nd rfl (Or.inl rfl) (pe_op op_add pe_int (pe_call (ok_w_next T) (hr.mono (by decide)) (by rfl) T.d_w_next.g T.d_w_next.F.kp T.d_w_next.b .nil pass0 (pa_cons (pv 0) (pa_cons (pe_ix (ix_listK (K := K) rfl) (pe_lstA (pa_cons pe_int (pa_cons pe_int (pa_cons pe_int (pa_cons pe_int pa_nil))))) (pe_call (ok_w_next T) (hr.mono (by decide)) (by rfl) T.d_w_next.g T.d_w_next.F.kp T.d_w_next.b .nil pass0 (pa_cons (pv 0) (pa_cons pe_int pa_nil))) (fun _ _ => rfl)) pa_nil)))))
      (pss_cons (ps_set (i := 3) sc_w_word.nd rfl (Or.inr rfl) (pe_call (ok_w_next T) (hr.mono (by decide)) (by rfl) T.d_w_next.g T.d_w_next.F.kp T.d_w_next.b .nil pass0 (pa_cons (pv 0) (pa_cons pe_int pa_nil))))
      (pss_cons (ps_set (i := 4) sc_w_word.nd rfl (Or.inr rfl) (pe_call (ok_w_next T) (hr.mono (by decide)) (by rfl) T.d_w_next.g T.d_w_next.F.kp T.d_w_next.b .nil pass0 (pa_cons (pv 0) (pa_cons pe_int pa_nil))))
      (pss_one (ps_ret (pe_joinN (K := K) rfl pe_str (pe_lc (own := [("_law_k", 5)]) (g := gName 5) (by rfl) sc_w_word.nd (pi_range1 (by rfl) T.b_range (pa_cons (pv 2) pa_nil)) (blkOk_by (own := [("_law_k", 5)]) (N := N_w_word) (sc := defScope s_w_word) (by decide +kernel)) (fun _ _ _ _ _ => (pg_name (i := 5) sc_w_word.nd rfl (Or.inl rfl))) (fun _ _ _ _ _ => pts_nil) (fun _ _ _ _ _ => (pe_ix ix_str (pv 1) (pe_op op_mod (pe_op op_add (pv 3) (pe_op op_mul (pv 4) (pv 5))) pe_int) (fun _ _ => rfl))))))))))), ?_⟩
    tm_at "rzs"
    intro p1 H1 f1 s1 g1
    have np1 : p1 ≠ s := hs.ne f1
    tm_at "rzs"
    intro n2 H2 d2 l2 u2
    obtain ⟨x, hx, far, rfl, far0, far1⟩ := pick4 (P := InR 1 41) l2 u2 ⟨2, rfl, by decide, by decide⟩ ⟨5, rfl, by decide, by decide⟩ ⟨9, rfl, by decide, by decide⟩ ⟨40, rfl, by decide, by decide⟩
    refine ⟨_, _, _, _, rfl, rfl, sqL (d2.app np1 g1), hx, ?_⟩
    have d02 : Dr s H H2 := (Dr.of hs s1).trans d2
    tm_at "rzs"
    intro n3 H3 d3 l3 u3
    obtain ⟨mn, hmn⟩ : ∃ m : Nat, 1 + n3 = (m : Int) := ⟨(1 + n3).toNat, by omega⟩
    tm_at "rd"
    dsimp only [gName]
    rw [hmn]
    tm_at "rzs"
    intro fi H4 d4 l4 u4
    tm_at "rzs"
    intro st H5 d5 l5 u5
    have d05 := ((d02.trans d3).trans d4).trans d5
    refine ⟨⟨_, rfl⟩, ?_⟩
    refine ⟨_, rfl, _, rfl, by omega, by omega, fun D hD => lcRm (n := mn) (fun k => V.str (sO [signL fi st k])) hD (by omega) (fun i H6 Kt Kf hi s6 kt => ?_) (fun H6 s6 g6 => ?_)⟩
    · tm_at "rzs"
      refine ⟨_, _, signL fi st i, rfl, rfl, Nat.le_of_ble_eq_true rfl, by rw [Int.zero_add]; exact signL_at fi st i, ?_⟩
      exact kt _ (Same.refl _)
    have g6 : H6 D = some (.lst ((((List.range mn).map fun k => signL fi st k).map fun c => [c]).map fun y => V.str (sO y))) := by rw [g6, List.map_map, List.map_map]; rfl
    refine ⟨[], D, _, by rw [empty_eq], rfl, sqL g6, ?_, ?_⟩
    · rw [List.length_map, List.length_map, List.length_range, List.length_nil, Nat.mul_zero]
      have : ∀ l : List Nat, ((l.map fun c => [c]).map List.length).sum = l.length := fun l => by
        induction l with
        | nil => rfl
        | cons c l ih => rw [List.map_cons, List.map_cons, List.sum_cons, ih]; show 1 + l.length = l.length + 1; omega
      rw [this, List.length_map, List.length_range]; omega
    rw [joinL_signs]
    refine k _ H6 (d05.same s6) ?_ ?_ fun c hc => ?_
    · rw [List.length_map, List.length_range]; omega
    · rw [List.length_map, List.length_range]; omega
    · obtain ⟨j, _, rfl⟩ := List.mem_map.mp hc
      exact signL_ok _ _ _
end
end My
namespace My
open PySem PySem.Spec PyProof.Rows L2
section
variable {P : Program} {w : World} {K : PySem.W.Frag} {mg : Str → Option Value} {base : Heap}
def sp_w_text : Sp := fun vs H Q _ => ∃ (s : Addr) (m : Nat), vs = [.ref s, .int (m : Int)] ∧ Src H s ∧ m ≤ 1000 ∧ ∀ (l : List Nat) (H' : Hp), Dr s H H' → l.length ≤ m → (∀ c ∈ l, c < 127) → Q (.str (sO l)) H'
theorem ok_w_text (T : Tx w K mg) : FnOk P w K mg base CX0 4 T.d_w_text.f T.d_w_text.fd ["_law_source_here", "_law_most"] (sp_w_text) := by
  refine T.d_w_text.F.ok sc_w_text (fun vs H Q E h => ?_) (fun cdv A outer s H vs Q E hr h => ?_)
  · obtain ⟨s, m, rfl, _⟩ := h
    rfl
  · obtain ⟨s, m, rfl, hs, hm, k⟩ := h
    refine ⟨_, (pss_cons (ps_set (i := 2) sc_w_text.nd rfl (Or.inl rfl) pe_str)
      (pss_cons (ps_for PassesOwn.never (by rfl) (pi_range1 (by rfl) T.b_range (pa_cons (pe_call (ok_w_next T) (hr.mono (by decide)) (by rfl) T.d_w_next.g T.d_w_next.F.kp T.d_w_next.b .nil pass0 (pa_cons (pv 0) (pa_cons (pe_ix (ix_listK (K := K) rfl) (pe_lstA (pa_cons pe_int (pa_cons pe_int (pa_cons pe_int pa_nil)))) (pe_call (ok_w_next T) (hr.mono (by decide)) (by rfl) T.d_w_next.g T.d_w_next.F.kp T.d_w_next.b .nil pass0 (pa_cons (pv 0) (pa_cons pe_int pa_nil))) (fun _ _ => rfl)) pa_nil))) pa_nil)) (pg_name (i := 3) sc_w_text.nd rfl (Or.inl rfl))
      (pss_cons (ps_set (i := 4) sc_w_text.nd rfl (Or.inl rfl) (pe_call (ok_w_next T) (hr.mono (by decide)) (by rfl) T.d_w_next.g T.d_w_next.F.kp T.d_w_next.b .nil pass0 (pa_cons (pv 0) (pa_cons pe_int pa_nil))))
      (pss_cons (ps_if (pt_cmpR op_eq (pv 4) pe_int (nomark _))
      (pss_one (ps_set (i := 2) sc_w_text.nd rfl (Or.inl rfl) (pe_op op_add_str (pv 2) (pe_op op_repS pe_str (pe_op op_add pe_int (pe_call (ok_w_next T) (hr.mono (by decide)) (by rfl) T.d_w_next.g T.d_w_next.F.kp T.d_w_next.b .nil pass0 (pa_cons (pv 0) (pa_cons pe_int pa_nil))))))))
      pss_nil)
      (pss_cons (ps_if (pt_cmpR op_eq (pv 4) pe_int (nomark _))
      (pss_one (ps_set (i := 2) sc_w_text.nd rfl (Or.inl rfl) (pe_op op_add_str (pv 2) (pe_op op_repS pe_str (pe_op op_add pe_int (pe_call (ok_w_next T) (hr.mono (by decide)) (by rfl) T.d_w_next.g T.d_w_next.F.kp T.d_w_next.b .nil pass0 (pa_cons (pv 0) (pa_cons pe_int pa_nil))))))))
      pss_nil)
      (pss_one (ps_if (pt_cmpR op_gt (pv 4) pe_int (nomark _))
      (pss_one (ps_set (i := 2) sc_w_text.nd rfl (Or.inl rfl) (pe_op op_add_str (pe_op op_add_str (pv 2) (pe_call (ok_w_word T) (hr.mono (by decide)) (by rfl) T.d_w_word.g T.d_w_word.F.kp T.d_w_word.b .nil pass0 (pa_cons (pv 0) pa_nil))) (pe_ix (ix_listK (K := K) rfl) (pe_lstA (pa_cons pe_str (pa_cons pe_str (pa_cons pe_str (pa_cons pe_str pa_nil))))) (pe_call (ok_w_next T) (hr.mono (by decide)) (by rfl) T.d_w_next.g T.d_w_next.F.kp T.d_w_next.b .nil pass0 (pa_cons (pv 0) (pa_cons pe_int pa_nil))) (fun _ _ => rfl)))))
      pss_nil))))))
      (pss_one (ps_ret (pe_slice sl_str (pv 2) po_none (po_some (pv 1))))))), ?_⟩
    tm_at "rzs"
    intro p1 H1 f1 s1 g1
    have np1 : p1 ≠ s := hs.ne f1
    tm_at "rzs"
    intro n2 H2 d2 l2 u2
    obtain ⟨x, hx, far, rfl, far0, far1⟩ := pick3 (P := InR 1 41) l2 u2 ⟨3, rfl, by decide, by decide⟩ ⟨12, rfl, by decide, by decide⟩ ⟨40, rfl, by decide, by decide⟩
    refine ⟨_, _, _, _, rfl, rfl, sqL (d2.app np1 g1), hx, ?_⟩
    have d02 : Dr s H H2 := (Dr.of hs s1).trans d2
    tm_at "rzs"
    intro mz H3 d3 l3 u3
    have d03 := d02.trans d3
    refine ⟨_, rfl, by omega, by omega, ?_⟩
    refine for_range (lo := 0) (n := mz.toNat) (fun i σ H' => ∃ (l : List Nat) (v3 v4 : Option V), σ = [some (.ref s), some (.int (m : Int)), some (.str (sO l)), v3, v4] ∧ Dr s H H' ∧ l.length ≤ 50 * i ∧ ∀ c ∈ l, c < 127)
      ⟨[], _, _, by rw [← empty_eq]; rfl, d03, Nat.zero_le _, fun c h => by cases h⟩ ?_ ?_
    · rintro i σ H4 hi ⟨l, v3, v4, rfl, d4, ll, lb⟩
      dsimp only [gName]
      tm_at "rzs"
      intro wy H5 d5 l5 u5
      have d05 := d4.trans d5
      dsimp only [gName]
      show tSeq _ _ _ [some (.ref s), some (.int (m : Int)), some (.str (sO l)), some (.int (0 + (i : Int))), some (.int wy)] H5
      tm_at "rds"
      by_cases e0 : wy = 0
      · subst e0
        tm_at "rzs"
        intro n H6 d6 l6 u6
        refine ⟨_, _, rfl, rfl, ?_⟩
        refine ⟨10, (1 + n).toNat, by rw [feed_eq], by rw [Int.toNat_of_nonneg (by omega)], by omega, by omega, ?_⟩
        refine ⟨_, _, rfl, rfl, by rw [sO_len, sO_len, List.length_replicate, sizeLine_eq]; omega, ?_⟩
        rw [sO_append]
        tm_at "rzs"
        refine ⟨_, _, _, rfl, d05.trans d6, by rw [List.length_append, List.length_replicate]; omega, fun c hc => ?_⟩
        rcases List.mem_append.mp hc with h | h
        · exact lb c h
        · rw [List.eq_of_mem_replicate h]; decide
      refine iteF' (by rw [int_inj_dec]; exact decide_eq_false e0) ?_
      tm_at "rds"
      by_cases e1 : wy = 1
      · subst e1
        tm_at "rzs"
        intro n H6 d6 l6 u6
        refine ⟨_, _, rfl, rfl, ?_⟩
        refine ⟨32, (1 + n).toNat, by rw [blank_eq], by rw [Int.toNat_of_nonneg (by omega)], by omega, by omega, ?_⟩
        refine ⟨_, _, rfl, rfl, by rw [sO_len, sO_len, List.length_replicate, sizeLine_eq]; omega, ?_⟩
        rw [sO_append]
        tm_at "rzs"
        refine ⟨_, _, _, rfl, d05.trans d6, by rw [List.length_append, List.length_replicate]; omega, fun c hc => ?_⟩
        rcases List.mem_append.mp hc with h | h
        · exact lb c h
        · rw [List.eq_of_mem_replicate h]; decide
      refine iteF' (by rw [int_inj_dec]; exact decide_eq_false e1) ?_
      tm_at "rds"
      refine iteT' (decide_eq_true (by omega)) ?_
      tm_at "rds"
      intro y H6 d6 y1 y2 yb
      refine ⟨_, _, rfl, rfl, by rw [sO_len, sO_len, sizeLine_eq]; omega, ?_⟩
      rw [sO_append]
      tm_at "rzs"
      intro p7 H7 f7 s7 g7
      have np7 : p7 ≠ s := d6.s.ne f7
      tm_at "rzs"
      intro n8 H8 d8 l8 u8
      obtain ⟨x, hx, w, rfl, w1, wb⟩ := pick4 (P := fun v => ∃ w : List Nat, v = .str (sO w) ∧ w.length ≤ 1 ∧ ∀ c ∈ w, c < 127) l8 u8 (a := .str (Str.ofString " ")) (b := .str (Str.ofString " ")) (c := .str (Str.ofString " ")) (d := .str (Str.ofString "")) ⟨[32], by rw [blank_eq], Nat.le_refl _, by decide⟩ ⟨[32], by rw [blank_eq], Nat.le_refl _, by decide⟩ ⟨[32], by rw [blank_eq], Nat.le_refl _, by decide⟩ ⟨[], by rw [empty_eq], Nat.zero_le _, by decide⟩
      refine ⟨_, _, _, _, rfl, rfl, sqL (d8.app np7 g7), hx, ?_⟩
      refine ⟨_, _, rfl, rfl, by rw [sO_len, sO_len, List.length_append, sizeLine_eq]; omega, ?_⟩
      rw [sO_append]
      refine ⟨_, _, _, rfl, ((d05.trans d6).same s7).trans d8, by rw [List.length_append, List.length_append]; omega, fun c hc => ?_⟩
      rcases List.mem_append.mp hc with h | h
      · rcases List.mem_append.mp h with h | h
        · exact lb c h
        · exact (yb c h).2
      · exact wb c h
    · rintro σ H4 ⟨l, v3, v4, rfl, d4, ll, lb⟩
      tm_at "rzs"
      rw [cutS_take]
      refine ⟨by rw [sO_len, sizeLine_eq]; omega, ?_⟩
      exact k (l.take m) H4 d4 (by rw [List.length_take]; omega) fun c hc => lb c (List.mem_of_mem_take hc)
end
end My
namespace My
open PySem PySem.Spec PyProof.Rows L2
section
variable {P : Program} {w : World} {K : PySem.W.Frag} {mg : Str → Option Value} {base : Heap}
def kindT : Nat → V
  | 0 => sX "told"
  | 1 => sX "text"
  | _ => sX "number"
def sp_w_refused (P : Program) (w : World) (K : PySem.W.Frag) (mg : Str → Option Value) (base : Heap) (cX cN : Addr) : Sp := fun vs H Q _ => ∃ (f : Addr) (sp : Sp) (g : Nat), vs = [.ref f] ∧ g < 3 ∧ ClosX P w K mg base 6 H f 0 sp ∧
  (∀ (Q' : VK) (E' : XK), (g = 0 → ∀ v H', Same H H' → Q' v H') → (g = 1 → ∀ dd H', Same H H' → H' dd = some (.xd [("line", .int 0)]) → E' (.ref cX) (some dd) H') → (g = 2 → ∀ H', Same H H' → E' (.ref cN) none H') → sp [] H Q' E') ∧ ∀ H', Same H H' → Q (kindT g) H'
theorem ok_w_refused (T : Tx w K mg) : FnOk P w K mg base CX0 9 T.d_w_refused.f T.d_w_refused.fd ["_law_ask"] (sp_w_refused P w K mg base T.e_NoText.C T.e_NoNumber.C) := by
  refine T.d_w_refused.F.ok sc_w_refused (fun vs H Q E h => ?_) (fun cdv A outer s H vs Q E hr h => ?_)
  · obtain ⟨f, sp, g, rfl, _⟩ := h
    rfl
  · obtain ⟨f, sp, g, rfl, g3, hc, h, k⟩ := h
    refine ⟨_, (pss_cons (L2N.ps_try_as (i := 1) rfl rfl sc_w_refused.nd rfl rfl ⟨rfl, by decide, Or.inl T.e_NestError.g⟩ takes0N (fun W pn xe tk po =>
      (pss_one (ps_expr (pe_callX0K (P := P) (w := w) (K := K) (mg := mg) (base := base) rfl rfl rfl rfl rfl (k := 6) (i := 0) (hr.mono (by omega)) (by rfl) (Or.inl rfl) (fun σ => L2N.passAt tk σ)))))
      (fun a oe cls d pn hz hf =>
      (pss_cons (ps_set (i := 2) sc_w_refused.nd rfl (Or.inl rfl) (pe_lstA (pa_cons (pe_callB (call_isXs hz hf) (by rfl) T.b_isinstance (by decide +kernel) (pa_cons (pv 1) (pa_cons (pe_glob (v := .ref T.e_NoText.C) (by rfl) T.e_NoText.g rfl) pa_nil))) (pa_cons (pe_callB (call_isXs hz hf) (by rfl) T.b_isinstance (by decide +kernel) (pa_cons (pv 1) (pa_cons (pe_glob (v := .ref T.e_NoNumber.C) (by rfl) T.e_NoNumber.g rfl) pa_nil))) (pa_cons (pe_callB (call_isXs hz hf) (by rfl) T.b_isinstance (by decide +kernel) (pa_cons (pv 1) (pa_cons (pe_glob (v := .ref T.e_NoName.C) (by rfl) T.e_NoName.g rfl) pa_nil))) (pa_cons (pe_callB (call_isXs hz hf) (by rfl) T.b_isinstance (by decide +kernel) (pa_cons (pv 1) (pa_cons (pe_glob (v := .ref T.e_NoRow.C) (by rfl) T.e_NoRow.g rfl) pa_nil))) pa_nil))))))
      (pss_cons (ps_set (i := 2) sc_w_refused.nd rfl (Or.inl rfl) (pe_op (op_catK (K := K) rfl) (pv 2) (pe_lstA (pa_cons (pe_callB (call_isXs hz hf) (by rfl) T.b_isinstance (by decide +kernel) (pa_cons (pv 1) (pa_cons (pe_glob (v := .ref T.e_NoStyle.C) (by rfl) T.e_NoStyle.g rfl) pa_nil))) (pa_cons (pe_callB (call_isXs hz hf) (by rfl) T.b_isinstance (by decide +kernel) (pa_cons (pv 1) (pa_cons (pe_glob (v := .ref T.e_NoTree.C) (by rfl) T.e_NoTree.g rfl) pa_nil))) (pa_cons (pe_callB (call_isXs hz hf) (by rfl) T.b_isinstance (by decide +kernel) (pa_cons (pv 1) (pa_cons (pe_glob (v := .ref T.e_NoWord.C) (by rfl) T.e_NoWord.g rfl) pa_nil))) (pa_cons (pe_callB (call_isXs hz hf) (by rfl) T.b_isinstance (by decide +kernel) (pa_cons (pv 1) (pa_cons (pe_glob (v := .ref T.e_NoWords.C) (by rfl) T.e_NoWords.g rfl) pa_nil))) pa_nil)))))))
      (pss_cons (ps_if (PW.pt (pw_or (pt_cmpR op_ne (pe_bmK (K := K) rfl PySem.F.plainAttrs_list PySem.F.slot_list_count PySem.F.type_list_count (mt_countFK (K := K) rfl) (pv 2) (pa_cons pe_bl pa_nil)) pe_int (nomark _)) (pw_or1 (pt_not (pt_val (pe_callB (call_isXs hz hf) (by rfl) T.b_isinstance (by decide +kernel) (pa_cons (pv 1) (pa_cons (pe_bltn (v := .ty "ValueError") (by rfl) T.b_ValueError (by decide +kernel) rfl) pa_nil))))))))
      (pss_one (ps_ret pe_str))
      pss_nil)
      (pss_cons (ps_if (PW.pt (pw_and (pt_val (pe_ix (ix_listK (K := K) rfl) (pv 2) pe_int (fun _ _ => rfl))) (pw_and1 (pt_cmpR op_ne (pe_xf (C := T.e_NoText.C) T.xf_NoText T.n_NoText_line hz.zc hf (pv 1)) pe_int (nomark _)))))
      (pss_one (ps_ret pe_str))
      pss_nil)
      (pss_one (ps_ret (pe_ix (ix_listK (K := K) rfl) (pe_op (op_catK (K := K) rfl) (pe_lstA (pa_cons pe_str (pa_cons pe_str pa_nil))) (pe_op op_repA (pe_lstA (pa_cons pe_str pa_nil)) pe_int)) (pe_bmK (K := K) rfl PySem.F.plainAttrs_list PySem.F.slot_list_index PySem.F.type_list_index (mt_indexK (K := K) rfl) (pv 2) (pa_cons pe_bl pa_nil)) (fun _ _ => rfl))))))))))
      (pss_one (ps_ret pe_str))), ?_⟩
    tm_at "rzs"
    refine h _ _ (fun e v H1 s1 => ?_) (fun e dd H1 s1 gd => ?_) (fun e H1 s1 => ?_)
    · subst e
      tm_at "rzs"
      exact k H1 s1
    · subst e
      refine ⟨true, T.e_NestError.exm T.r_NoText, fun _ ae hae => ?_, fun q => Bool.noConfusion q⟩
      have hd : DctAt (some dd) H1 := fun d2 e2 => by cases e2; exact ⟨_, gd⟩
      tm_at "rzs"
      refine ⟨_, _, _, _, rfl, hd, T.x_NoText.E, rfl, fun u r => r, T.x_NoText.kitC T.e_NoText T.i_NoText_NoText T.i_NoText_NoText, ?_⟩
      tm_at "rzs"
      refine ⟨_, _, _, _, rfl, hd, T.x_NoText.E, rfl, fun u r => r, T.x_NoText.kitX T.e_NoNumber T.i_NoText_NoText T.i_NoText_NoNumber, ?_⟩
      tm_at "rzs"
      refine ⟨_, _, _, _, rfl, hd, T.x_NoText.E, rfl, fun u r => r, T.x_NoText.kitC T.e_NoName T.i_NoText_NoText T.i_NoText_NoName, ?_⟩
      tm_at "rzs"
      refine ⟨_, _, _, _, rfl, hd, T.x_NoText.E, rfl, fun u r => r, T.x_NoText.kitC T.e_NoRow T.i_NoText_NoText T.i_NoText_NoRow, ?_⟩
      tm_at "rzs"
      intro p2 H2 f2 s2 g2
      dsimp only [gName]
      have hd2 := hd.same s2
      tm_at "rzs"
      refine ⟨_, _, _, _, rfl, hd2, T.x_NoText.E, rfl, fun u r => r, T.x_NoText.kitC T.e_NoStyle T.i_NoText_NoText T.i_NoText_NoStyle, ?_⟩
      tm_at "rzs"
      refine ⟨_, _, _, _, rfl, hd2, T.x_NoText.E, rfl, fun u r => r, T.x_NoText.kitC T.e_NoTree T.i_NoText_NoText T.i_NoText_NoTree, ?_⟩
      tm_at "rzs"
      refine ⟨_, _, _, _, rfl, hd2, T.x_NoText.E, rfl, fun u r => r, T.x_NoText.kitC T.e_NoWord T.i_NoText_NoText T.i_NoText_NoWord, ?_⟩
      tm_at "rzs"
      refine ⟨_, _, _, _, rfl, hd2, T.x_NoText.E, rfl, fun u r => r, T.x_NoText.kitC T.e_NoWords T.i_NoText_NoText T.i_NoText_NoWords, ?_⟩
      tm_at "rzs"
      intro p3 H3 f3 s3 g3
      refine ⟨p2, p3, _, _, rfl, rfl, s3 _ _ g2, g3, Nat.le_of_ble_eq_true rfl, fun p4 H4 f4 s4 g4 => ?_⟩
      have hd4 := hd2.same (s3.trans s4)
      dsimp only [gName]
      tm_at "rzs"
      refine ⟨p4, _, _, rfl, rfl, sqL g4, rfl, rfl, ?_⟩
      tm_at "rzs"
      refine ⟨_, _, _, _, rfl, hd4, T.x_NoText.E, rfl, fun u r => r, kit_exT T.v_NoText, ?_⟩
      have gd4 := s4 _ _ (s3 _ _ (s2 _ _ gd))
      tm_at "rzs"
      refine ⟨dd, _, _, rfl, gd4, rfl, ?_⟩
      tm_at "rzs"
      intro p5 H5 f5 s5 g5
      tm_at "rzs"
      intro p6 H6 f6 s6 g6
      tm_at "rzs"
      refine ⟨p6, _, _, rfl, rfl, g6, by decide, by decide, (show 1 * _ ≤ sizeLine from by rw [sizeLine_eq]; exact Nat.le_of_ble_eq_true rfl), fun p7 H7 f7 s7 g7 => ?_⟩
      refine ⟨p5, p7, _, _, rfl, rfl, s7 _ _ (s6 _ _ g5), g7, Nat.le_of_ble_eq_true rfl, fun p8 H8 f8 s8 g8 => ?_⟩
      have g48 := s8 _ _ (s7 _ _ (s6 _ _ (s5 _ _ g4)))
      tm_at "rzs"
      refine ⟨p4, _, _, 0, _, rfl, rfl, sqL g48, rfl, rfl, rfl, rfl, fun m z hm ez => ?_, ?_⟩
      · omega
      refine ⟨p8, _, _, _, rfl, rfl, sqL g8, atI_nat (j := 0) rfl, ?_⟩
      tm_at "rzs"
      exact k H8 (((s1.trans s2).trans (s3.trans s4)).trans ((s5.trans s6).trans (s7.trans s8)))
    · subst e
      refine ⟨true, T.e_NestError.exm T.r_NoNumber, fun _ ae hae => ?_, fun q => Bool.noConfusion q⟩
      tm_at "rzs"
      refine ⟨_, _, _, _, rfl, DctAt.non, T.e_NoNumber.E, rfl, fun u r => r, T.e_NoNumber.kitC T.e_NoText T.i_NoNumber_NoNumber T.i_NoNumber_NoText, ?_⟩
      tm_at "rzs"
      refine ⟨_, _, _, _, rfl, DctAt.non, T.e_NoNumber.E, rfl, fun u r => r, T.e_NoNumber.kit T.e_NoNumber T.i_NoNumber_NoNumber T.i_NoNumber_NoNumber, ?_⟩
      tm_at "rzs"
      refine ⟨_, _, _, _, rfl, DctAt.non, T.e_NoNumber.E, rfl, fun u r => r, T.e_NoNumber.kitC T.e_NoName T.i_NoNumber_NoNumber T.i_NoNumber_NoName, ?_⟩
      tm_at "rzs"
      refine ⟨_, _, _, _, rfl, DctAt.non, T.e_NoNumber.E, rfl, fun u r => r, T.e_NoNumber.kitC T.e_NoRow T.i_NoNumber_NoNumber T.i_NoNumber_NoRow, ?_⟩
      tm_at "rzs"
      intro p2 H2 f2 s2 g2
      dsimp only [gName]
      tm_at "rzs"
      refine ⟨_, _, _, _, rfl, DctAt.non, T.e_NoNumber.E, rfl, fun u r => r, T.e_NoNumber.kitC T.e_NoStyle T.i_NoNumber_NoNumber T.i_NoNumber_NoStyle, ?_⟩
      tm_at "rzs"
      refine ⟨_, _, _, _, rfl, DctAt.non, T.e_NoNumber.E, rfl, fun u r => r, T.e_NoNumber.kitC T.e_NoTree T.i_NoNumber_NoNumber T.i_NoNumber_NoTree, ?_⟩
      tm_at "rzs"
      refine ⟨_, _, _, _, rfl, DctAt.non, T.e_NoNumber.E, rfl, fun u r => r, T.e_NoNumber.kitC T.e_NoWord T.i_NoNumber_NoNumber T.i_NoNumber_NoWord, ?_⟩
      tm_at "rzs"
      refine ⟨_, _, _, _, rfl, DctAt.non, T.e_NoNumber.E, rfl, fun u r => r, T.e_NoNumber.kitC T.e_NoWords T.i_NoNumber_NoNumber T.i_NoNumber_NoWords, ?_⟩
      tm_at "rzs"
      intro p3 H3 f3 s3 g3
      refine ⟨p2, p3, _, _, rfl, rfl, s3 _ _ g2, g3, Nat.le_of_ble_eq_true rfl, fun p4 H4 f4 s4 g4 => ?_⟩
      dsimp only [gName]
      tm_at "rzs"
      refine ⟨p4, _, _, rfl, rfl, sqL g4, rfl, rfl, ?_⟩
      tm_at "rzs"
      refine ⟨_, _, _, _, rfl, DctAt.non, T.e_NoNumber.E, rfl, fun u r => r, T.e_NoNumber.kitT T.v_NoNumber, ?_⟩
      tm_at "rzs"
      intro p5 H5 f5 s5 g5
      tm_at "rzs"
      intro p6 H6 f6 s6 g6
      tm_at "rzs"
      refine ⟨p6, _, _, rfl, rfl, g6, by decide, by decide, (show 1 * _ ≤ sizeLine from by rw [sizeLine_eq]; exact Nat.le_of_ble_eq_true rfl), fun p7 H7 f7 s7 g7 => ?_⟩
      refine ⟨p5, p7, _, _, rfl, rfl, s7 _ _ (s6 _ _ g5), g7, Nat.le_of_ble_eq_true rfl, fun p8 H8 f8 s8 g8 => ?_⟩
      have g48 := s8 _ _ (s7 _ _ (s6 _ _ (s5 _ _ g4)))
      tm_at "rzs"
      refine ⟨p4, _, _, 1, _, rfl, rfl, sqL g48, rfl, rfl, rfl, rfl, fun m z hm ez => ?_, ?_⟩
      · obtain rfl : m = 0 := by omega
        cases ez
        rfl
      refine ⟨p8, _, _, _, rfl, rfl, sqL g8, atI_nat (j := 1) rfl, ?_⟩
      tm_at "rzs"
      exact k H8 (((s1.trans s2).trans (s3.trans s4)).trans ((s5.trans s6).trans (s7.trans s8)))
end
end My
namespace My
open PySem PySem.Spec PyProof.Rows L2
section
variable {P : Program} {w : World} {K : PySem.W.Frag} {mg : Str → Option Value} {base : Heap}
def sp_w_no_width : Sp := fun vs H Q _ => ∃ (s : Addr), vs = [.ref s] ∧ Src H s ∧ ∀ v H', Dr s H H' → isN v = false → (∃ ty, Ty7 H' v ty) → Q v H'
theorem ok_w_no_width (T : Tx w K mg) : FnOk P w K mg base CX0 3 T.d_w_no_width.f T.d_w_no_width.fd ["_law_source_here"] (sp_w_no_width) := by
  refine T.d_w_no_width.F.ok sc_w_no_width (fun vs H Q E h => ?_) (fun cdv A outer s H vs Q E hr h => ?_)
  · obtain ⟨s, rfl, _⟩ := h
    rfl
  · obtain ⟨s, rfl, hs, k⟩ := h
    refine ⟨_, (pss_one (ps_ret (pe_ix (ix_listK (K := K) rfl) (pe_lstA (pa_cons pe_non (pa_cons pe_bl (pa_cons pe_bl (pa_cons (pe_op op_sub pe_int pe_int) (pa_cons (pe_op op_sub pe_int (pe_op op_pow pe_int pe_int)) (pa_cons pe_str (pa_cons (pe_lstA (pa_cons pe_int pa_nil)) (pa_cons (pe_tupA (pa_cons pe_int pa_nil)) (pa_cons pe_dnewA pa_nil)))))))))) (pe_call (ok_w_next T) (hr.mono (by decide)) (by rfl) T.d_w_next.g T.d_w_next.F.kp T.d_w_next.b .nil pass0 (pa_cons (pv 0) (pa_cons pe_int pa_nil))) (fun _ _ => rfl)))), ?_⟩
    tm_at "rzs"
    intro p1 H1 f1 s1 g1
    tm_at "rzs"
    intro p2 H2 f2 s2 g2
    tm_at "rzs"
    intro p3 H3 f3 s3 g3
    tm_at "rzs"
    intro p4 H4 f4 s4 g4
    have s03 := (s1.trans s2).trans s3
    have hs4 := hs.same (s03.trans s4)
    have n4 : p4 ≠ s := (hs.same s03).ne f4
    tm_at "rzs"
    intro z H5 d5 l5 u5
    have d05 : Dr s H H5 := (Dr.of hs (s03.trans s4)).trans d5
    have e1 := d5.app (hs.ne f1) (s4 _ _ (s3 _ _ (s2 _ _ g1)))
    have e2 := d5.app ((hs.same s1).ne f2) (s4 _ _ (s3 _ _ g2))
    have e3 := d5.app ((hs.same (s1.trans s2)).ne f3) (s4 _ _ g3)
    obtain ⟨v, hv, hn, ht⟩ := pickJ (P := fun v => isN v = false ∧ ∃ ty, Ty7 H5 v ty) (xs := [.non, .bl true, .bl false, .int (0 - 1), .int (1 - 10 ^ 12), sX "5", .ref p1, .ref p2, .ref p3]) l5 u5 (fun x mx => by
      simp only [List.mem_cons, List.not_mem_nil, or_false] at mx
      rcases mx with rfl | rfl | rfl | rfl | rfl | rfl | rfl | rfl | rfl
      · exact ⟨rfl, _, .non⟩
      · exact ⟨rfl, _, .bl _⟩
      · exact ⟨rfl, _, .bl _⟩
      · exact ⟨by decide +kernel, _, .int _⟩
      · exact ⟨by decide +kernel, _, .int _⟩
      · exact ⟨rfl, _, .str _⟩
      · exact ⟨rfl, _, .lst e1⟩
      · exact ⟨rfl, _, .tup e2⟩
      · exact ⟨rfl, _, .dK e3⟩)
    refine ⟨p4, _, _, _, rfl, rfl, sqL (d5.app n4 g4), hv, ?_⟩
    exact k v H5 d05 hn ht
end
end My
namespace My
open PySem PySem.Spec PyProof.Rows L2
section
variable {P : Program} {w : World} {K : PySem.W.Frag} {mg : Str → Option Value} {base : Heap}
def sp_w_no_text : Sp := fun vs H Q _ => ∃ (s : Addr), vs = [.ref s] ∧ Src H s ∧ ∀ v H', Dr s H H' → NoStr H' v → Q v H'
theorem ok_w_no_text (T : Tx w K mg) : FnOk P w K mg base CX0 3 T.d_w_no_text.f T.d_w_no_text.fd ["_law_source_here"] (sp_w_no_text) := by
  refine T.d_w_no_text.F.ok sc_w_no_text (fun vs H Q E h => ?_) (fun cdv A outer s H vs Q E hr h => ?_)
  · obtain ⟨s, rfl, _⟩ := h
    rfl
  · obtain ⟨s, rfl, hs, k⟩ := h
    refine ⟨_, (pss_one (ps_ret (pe_ix (ix_listK (K := K) rfl) (pe_lstA (pa_cons pe_non (pa_cons pe_int (pa_cons pe_bl (pa_cons pe_bl (pa_cons (pe_lstA (pa_cons pe_str pa_nil)) (pa_cons (pe_tupA (pa_cons pe_str (pa_cons pe_str pa_nil))) (pa_cons pe_dnewA (pa_cons (pe_lstA pa_nil) (pa_cons pe_int (pa_cons (pe_disp (pps_cons pe_str pe_int pps_nil) (by rfl) (by rfl) (fun z => by cases z) (by decide)) pa_nil))))))))))) (pe_call (ok_w_next T) (hr.mono (by decide)) (by rfl) T.d_w_next.g T.d_w_next.F.kp T.d_w_next.b .nil pass0 (pa_cons (pv 0) (pa_cons pe_int pa_nil))) (fun _ _ => rfl)))), ?_⟩
    tm_at "rzs"
    intro p1 H1 f1 s1 g1
    tm_at "rzs"
    intro p2 H2 f2 s2 g2
    tm_at "rzs"
    intro p3 H3 f3 s3 g3
    tm_at "rzs"
    intro p4 H4 f4 s4 g4
    tm_at "rzs"
    dsimp only [tCons, tC, tDisp]
    intro p5 f5
    dsimp only [tPairs]
    refine ⟨upd_same, [(.inr (Str.ofString "a"), .int 1)], rfl, Nat.le_of_ble_eq_true rfl, ?_⟩
    dsimp only [tNil]
    have b5 : But p5 H4 (upd (upd H4 p5 (.dK [])) p5 (.dK (mergeK [] [(.inr (Str.ofString "a"), .int 1)]))) := But.refl.upd.upd
    have g5 : (upd (upd H4 p5 (.dK [])) p5 (.dK (mergeK [] [(.inr (Str.ofString "a"), .int 1)]))) p5 = some (.dK (mergeK [] [(.inr (Str.ofString "a"), .int 1)])) := upd_same
    generalize upd (upd H4 p5 (.dK [])) p5 (.dK (mergeK [] [(.inr (Str.ofString "a"), .int 1)])) = H5 at b5 g5
    have s5 : Same H4 H5 := Same.mut' (Same.refl _) b5 f5
    generalize mergeK [] [(.inr (Str.ofString "a"), .int 1)] = kd at g5
    refine ⟨Nat.le_of_ble_eq_true rfl, fun p6 H6 f6 s6 g6 => ?_⟩
    have s01 := s1
    have s02 := s1.trans s2
    have s03 := s02.trans s3
    have s04 := s03.trans s4
    have s05 := s04.trans s5
    have s06 := s05.trans s6
    have hs6 := hs.same s06
    have n6 : p6 ≠ s := (hs.same s05).ne f6
    tm_at "rzs"
    intro z H7 d7 l7 u7
    have d07 : Dr s H H7 := (Dr.of hs s06).trans d7
    have e1 := d7.app (hs.ne f1) (s6 _ _ (s5 _ _ (s4 _ _ (s3 _ _ (s2 _ _ g1)))))
    have e2 := d7.app ((hs.same s01).ne f2) (s6 _ _ (s5 _ _ (s4 _ _ (s3 _ _ g2))))
    have e3 := d7.app ((hs.same s02).ne f3) (s6 _ _ (s5 _ _ (s4 _ _ g3)))
    have e4 := d7.app ((hs.same s03).ne f4) (s6 _ _ (s5 _ _ g4))
    have e5 := d7.app ((hs.same s04).ne f5) (s6 _ _ g5)
    obtain ⟨v, hv, ht⟩ := pickJ (P := fun v => NoStr H7 v) (xs := [.non, .int 5, .bl true, .bl false, .ref p1, .ref p2, .ref p3, .ref p4, .int 0, .ref p5]) l7 u7 (fun x mx => by
      simp only [List.mem_cons, List.not_mem_nil, or_false] at mx
      rcases mx with rfl | rfl | rfl | rfl | rfl | rfl | rfl | rfl | rfl | rfl
      · exact ⟨_, .non, by decide⟩
      · exact ⟨_, .int _, by decide⟩
      · exact ⟨_, .bl _, by decide⟩
      · exact ⟨_, .bl _, by decide⟩
      · exact ⟨_, .lst e1, by decide⟩
      · exact ⟨_, .tup e2, by decide⟩
      · exact ⟨_, .dK e3, by decide⟩
      · exact ⟨_, .lst e4, by decide⟩
      · exact ⟨_, .int _, by decide⟩
      · exact ⟨_, .dK e5, by decide⟩)
    refine ⟨p6, _, _, _, rfl, rfl, sqL (d7.app n6 g6), hv, ?_⟩
    exact k v H7 d07 ht
end
end My
namespace My
open PySem PySem.Spec PyProof.Rows L2
section
variable {P : Program} {w : World} {K : PySem.W.Frag} {mg : Str → Option Value} {base : Heap}
def sp_w_by_names : Sp := fun vs H Q _ => ∃ (l : List Nat) (m : Nat), vs = [.str (sO l), .int (m : Int)] ∧ l.length ≤ 1000 ∧ ∀ H', Same H H' → Q (.bl true) H'
theorem ok_w_by_names (T : Tx w K mg) : FnOk P w K mg base CX0 5 T.d_w_by_names.f T.d_w_by_names.fd ["_law_said", "_law_broad"] (sp_w_by_names) := by
  refine T.d_w_by_names.F.ok sc_w_by_names (fun vs H Q E h => ?_) (fun cdv A outer s H vs Q E hr h => ?_)
  · obtain ⟨l, m, rfl, _⟩ := h
    rfl
  · obtain ⟨l, m, rfl, hl, k⟩ := h
    refine ⟨_, (pss_cons (ps_set (i := 2) sc_w_by_names.nd rfl (Or.inl rfl) (pe_call (ok_wrapped T) (hr.mono (by decide)) (by rfl) T.d_wrapped.g T.d_wrapped.F.kp T.d_wrapped.b .nil passLN (pa_cons (pv 0) (pa_cons (pv 1) pa_nil))))
      (pss_cons (ps_if (PW.pt (pw_or (pt_not (pt_val (pe_callB is_list (by rfl) T.b_isinstance (by decide +kernel) (pa_cons (pv 2) (pa_cons (pe_bltn (v := .ty "list") (by rfl) T.b_list (by decide +kernel) rfl) pa_nil))))) (pw_or1 (pt_not (pt_val (pe_callB (cr_allK (K := K) rfl rfl) (by rfl) T.b_all (by decide +kernel) (pa_cons (pe_lc (own := [("_law_line", 3)]) (g := gName 3) (by rfl) sc_w_by_names.nd (pi_listK (K := K) rfl (pv 2)) (blkOk_by (own := [("_law_line", 3)]) (N := N_w_by_names) (sc := defScope s_w_by_names) (by decide +kernel)) (fun _ _ _ _ _ => (pg_name (i := 3) sc_w_by_names.nd rfl (Or.inl rfl))) (fun _ _ _ _ _ => pts_nil) (fun _ _ _ _ _ => (pe_callB is_str (by rfl) T.b_isinstance (by decide +kernel) (pa_cons (pv 3) (pa_cons (pe_bltn (v := .ty "str") (by rfl) T.b_str (by decide +kernel) rfl) pa_nil))))) pa_nil)))))))
      (pss_one (ps_ret pe_bl))
      pss_nil)
      (pss_cons (ps_if (PW.pt (pw_or (pt_cmpR (op_neTxK (K := K) hr.units rfl) (pv 2) (pe_callN0 (ok_wrapped T) (hr.mono (by decide)) (by rfl) T.d_wrapped.g T.d_wrapped.F.kp (kb_wrapped_0_wide_text T) passLN (pk_cons (pv 1) (pk_cons (pv 0) pk_nil))) (nomark _)) (pw_or1 (pt_cmpR op_ne (pe_call (ok_longest T) (hr.mono (by decide)) (by rfl) T.d_longest.g T.d_longest.F.kp T.d_longest.b .nil passLN (pa_cons (pv 0) pa_nil)) (pe_callN0 (ok_longest T) (hr.mono (by decide)) (by rfl) T.d_longest.g T.d_longest.F.kp (kb_longest_0_text T) passLN (pk_cons (pv 0) pk_nil)) (nomark _)))))
      (pss_one (ps_ret pe_bl))
      pss_nil)
      (pss_one (ps_ret (pe_cmpR op_eq (pe_call (ok_wished T) (hr.mono (by decide)) (by rfl) T.d_wished.g T.d_wished.F.kp T.d_wished.b .nil passLN (pa_cons (pv 0) pa_nil)) (pe_callN0 (ok_wished T) (hr.mono (by decide)) (by rfl) T.d_wished.g T.d_wished.F.kp (kb_wished_0_text T) passLN (pk_cons (pv 0) pk_nil)) (nomark _))))))), ?_⟩
    tm_at "rzs"
    intro p1 H1 f1 s1 g1
    dsimp only [gName]
    tm_at "rzs"
    have ll : (wrapL m l).length ≤ 2001 := by
      exact Nat.le_trans (wrapL_len m l) (by omega)
    refine ⟨⟨_, sqL g1⟩, fun D hD => lcLm (K := K) (ys := wrapL m l) (fun p => V.str (sO p)) (fun _ => V.bl true) hD (sqL g1) (by omega) (fun i y H4 Kt Kf hy s4 kt => ?_) (fun H4 s4 g4 => ?_)⟩
    · tm_at "rzs"
      exact kt _ (Same.refl _)
    have g4 : H4 D = some (.lst (((wrapL m l).map fun _ => true).map V.bl)) := by rw [g4, List.map_map]; rfl
    have g14 := s4 _ _ g1
    tm_at "rzs"
    refine ⟨D, _, rfl, sqL g4, ?_⟩
    rw [show ((wrapL m l).map fun _ => true).all id = true by simp]
    tm_at "rzs"
    intro q5 H5 f5 s5 g5
    have g15 := s5 _ _ g14
    refine ⟨p1, q5, wrapL m l, wrapL m l, rfl, rfl, sqL g15, sqL g5, ?_⟩
    rw [decide_eq_true rfl]
    tm_at "rzs"
    intro H6 s6
    tm_at "rzs"
    intro H7 s7
    tm_at "rzs"
    rw [show (!decide (V.int ((longL l : Nat) : Int) = V.int ((longL l : Nat) : Int))) = false by rw [decide_eq_true rfl]; rfl]
    tm_at "rzs"
    intro H8 s8
    tm_at "rzs"
    intro H9 s9
    tm_at "rzs"
    rw [decide_eq_true rfl]
    exact k H9 ((((s1.trans s4).trans s5).trans (s6.trans s7)).trans (s8.trans s9))
end
end My
namespace My
open PySem PySem.Spec PyProof.Rows L2 LamX NdefX
section
variable {P : Program} {w : World} {K : PySem.W.Frag} {mg : Str → Option Value} {base : Heap}
def sp_law (Tb : List (Addr × Str)) (K : PySem.W.Frag) : Sp := fun vs H Q _ => ∃ (a : Addr) (ns : List Int), vs = [.ref a] ∧ SqL K H a (ns.map V.int) ∧ ns.length ≤ 63 ∧ Tabs Tb H ∧ ∀ H', Q (.bl true) H'
def SaidAt (bt : Bool) (H : Hp) (v : V) : Prop := (bt = false ∧ ∃ l : List Nat, v = .str (sO l) ∧ l.length ≤ 400) ∨ (bt = true ∧ NoStr H v)
def BroadAt (bw : Bool) (H : Hp) (u : V) : Prop := (bw = false ∧ ∃ m : Nat, u = .int (m : Int)) ∨ (bw = true ∧ isN u = false ∧ ∃ ty, Ty7 H u ty)
theorem SaidAt.kx {bt : Bool} {H H' : Hp} {v : V} (h : SaidAt bt H v) (k : KeepX H H') : SaidAt bt H' v := h.imp id fun ⟨e, ty, a, b⟩ => ⟨e, ty, a.kx k, b⟩
theorem BroadAt.kx {bw : Bool} {H H' : Hp} {v : V} (h : BroadAt bw H v) (k : KeepX H H') : BroadAt bw H' v := h.imp id fun ⟨e, n, ty, a⟩ => ⟨e, n, ty, a.kx k⟩
def kg1 (bt : Bool) : Nat := if bt then 1 else 0
def kg2 (bt bw : Bool) : Nat := if bt then 1 else if bw then 2 else 0
theorem long_of {cX : Addr} {bt : Bool} {G : Hp} {v : V} {Q : VK} {E : XK} (h : SaidAt bt G v) (h0 : kg1 bt = 0 → ∀ v G', Same G G' → Q v G') (h1 : kg1 bt = 1 → ∀ dd G', Same G G' → G' dd = some (.xd [("line", .int 0)]) → E (.ref cX) (some dd) G') : sp_longest cX [v] G Q E := by
  rcases h with ⟨rfl, l, rfl, ll⟩ | ⟨rfl, hn⟩
  · exact ⟨_, rfl, .inl ⟨l, rfl, by omega, fun H' s => h0 rfl _ _ s⟩⟩
  · exact ⟨_, rfl, .inr ⟨hn, fun dd H' s g => h1 rfl dd H' s g⟩⟩
theorem wish_of {cX : Addr} {bt : Bool} {G : Hp} {v : V} {Q : VK} {E : XK} (h : SaidAt bt G v) (h0 : kg1 bt = 0 → ∀ v G', Same G G' → Q v G') (h1 : kg1 bt = 1 → ∀ dd G', Same G G' → G' dd = some (.xd [("line", .int 0)]) → E (.ref cX) (some dd) G') : sp_wished cX [v] G Q E := by
  rcases h with ⟨rfl, l, rfl, ll⟩ | ⟨rfl, hn⟩
  · exact ⟨_, rfl, .inl ⟨l, rfl, by omega, fun H' s => h0 rfl _ _ s⟩⟩
  · exact ⟨_, rfl, .inr ⟨hn, fun dd H' s g => h1 rfl dd H' s g⟩⟩
theorem wrap_of {cX cN : Addr} {bt bw : Bool} {G : Hp} {v u : V} {Q : VK} {E : XK} (h : SaidAt bt G v) (hu : BroadAt bw G u) (h0 : kg2 bt bw = 0 → ∀ v G', Same G G' → Q v G') (h1 : kg2 bt bw = 1 → ∀ dd G', Same G G' → G' dd = some (.xd [("line", .int 0)]) → E (.ref cX) (some dd) G') (h2 : kg2 bt bw = 2 → ∀ G', Same G G' → E (.ref cN) none G') : sp_wrapped cX cN [v, u] G Q E := by
  rcases h with ⟨rfl, l, rfl, ll⟩ | ⟨rfl, hn⟩
  · refine ⟨_, _, rfl, .inr ⟨l, rfl, by omega, ?_⟩⟩
    rcases hu with ⟨rfl, m, rfl⟩ | ⟨rfl, hn, ht⟩
    · exact .inl ⟨m, rfl, fun p G' f s g => h0 rfl _ _ s⟩
    · exact .inr ⟨hn, ht, fun G' s => h2 rfl G' s⟩
  · exact ⟨_, _, rfl, .inl ⟨hn, fun dd H' s g => h1 rfl dd H' s g⟩⟩
theorem kind_is (g : Nat) : ∃ l : List Nat, kindT g = .str (sO l) := by
  match g with
  | 0 => exact ⟨(Str.ofString "told").1.toList, congrArg V.str (by decide +kernel)⟩
  | 1 => exact ⟨(Str.ofString "text").1.toList, congrArg V.str (by decide +kernel)⟩
  | n + 2 => exact ⟨(Str.ofString "number").1.toList, congrArg V.str (by decide +kernel)⟩
def sp_law_lam (cX cN : Addr) (ws : List (Option V)) : Sp := fun vs H Q E => ∃ (v : V), ws = [some v] ∧ vs = [] ∧ sp_longest cX [v] H Q E
abbrev e_law_lam : Expr := (lmX 0 (lmT ((lmD ((defBody s_law).getD 0 (.Pass ⟨0, 0, 0, 0⟩))).getD 8 (.Pass ⟨0, 0, 0, 0⟩))))
abbrev F_law_lam (cl : List (Str × Addr)) (c : Addr) : NdefX.NF := ⟨"<lambda>", qIn "law" ++ ("<lambda>" : Str), lmA e_law_lam, [], lmS e_law_lam, cl, c⟩
theorem sc_law_lam : NdefX.NScope ["_law_said"] [] ["_law_said"] (lmS e_law_lam) := NdefX.nscope_by (by decide +kernel)
theorem nd_law_lam : NdefX.ndefB (defScope s_law) (lmS e_law_lam) ["_law_said"] = true := by decide +kernel
theorem run_law_lam (T : Tx w K mg) (f : Addr) (cl : List (Str × Addr)) (c : Addr) : CRunX P w K mg base 5 f (LmO f (F_law_lam cl c) (lmB e_law_lam)) c (qIn "law" ++ ("<lambda>" : Str)) cl [] ["_law_said"] (sp_law_lam T.e_NoText.C T.e_NoNumber.C) := by
  refine CRunX.lam (N := ["_law_said"]) (F := F_law_lam cl c) sc_law_lam (fun pm ctv us hl => match us, hl with | [], _ => rfl) (fun A outer s H vs ws Q E hr hw hl h => ?_)
  obtain ⟨v, rfl, rfl, h⟩ := h
  refine ⟨_, (pe_call (ok_longest T) (hr.mono (by decide)) (by rfl) T.d_longest.g T.d_longest.F.kp T.d_longest.b .nil (L2N.passes_call (L2N.takes_of rfl rfl rfl rfl) (fun _ _ _ _ h => h)) (pa_cons (pv 0) pa_nil)), ?_⟩
  obtain ⟨v', e, h⟩ := h
  cases e
  tm_at "rzs"
  exact h
def sp_law_lam1 (cX cN : Addr) (ws : List (Option V)) : Sp := fun vs H Q E => ∃ (v : V), ws = [some v] ∧ vs = [] ∧ sp_wished cX [v] H Q E
abbrev e_law_lam1 : Expr := (lmX 1 (lmT ((lmD ((defBody s_law).getD 0 (.Pass ⟨0, 0, 0, 0⟩))).getD 8 (.Pass ⟨0, 0, 0, 0⟩))))
abbrev F_law_lam1 (cl : List (Str × Addr)) (c : Addr) : NdefX.NF := ⟨"<lambda>", qIn "law" ++ ("<lambda>" : Str), lmA e_law_lam1, [], lmS e_law_lam1, cl, c⟩
theorem sc_law_lam1 : NdefX.NScope ["_law_said"] [] ["_law_said"] (lmS e_law_lam1) := NdefX.nscope_by (by decide +kernel)
theorem nd_law_lam1 : NdefX.ndefB (defScope s_law) (lmS e_law_lam1) ["_law_said"] = true := by decide +kernel
theorem run_law_lam1 (T : Tx w K mg) (f : Addr) (cl : List (Str × Addr)) (c : Addr) : CRunX P w K mg base 5 f (LmO f (F_law_lam1 cl c) (lmB e_law_lam1)) c (qIn "law" ++ ("<lambda>" : Str)) cl [] ["_law_said"] (sp_law_lam1 T.e_NoText.C T.e_NoNumber.C) := by
  refine CRunX.lam (N := ["_law_said"]) (F := F_law_lam1 cl c) sc_law_lam1 (fun pm ctv us hl => match us, hl with | [], _ => rfl) (fun A outer s H vs ws Q E hr hw hl h => ?_)
  obtain ⟨v, rfl, rfl, h⟩ := h
  refine ⟨_, (pe_call (ok_wished T) (hr.mono (by decide)) (by rfl) T.d_wished.g T.d_wished.F.kp T.d_wished.b .nil (L2N.passes_call (L2N.takes_of rfl rfl rfl rfl) (fun _ _ _ _ h => h)) (pa_cons (pv 0) pa_nil)), ?_⟩
  obtain ⟨v', e, h⟩ := h
  cases e
  tm_at "rzs"
  exact h
def sp_law_lam2 (cX cN : Addr) (ws : List (Option V)) : Sp := fun vs H Q E => ∃ (v : V), ws = [some v] ∧ vs = [] ∧ sp_longest cX [v] H Q E
abbrev e_law_lam2 : Expr := (lmX 2 (lmT ((lmD ((defBody s_law).getD 0 (.Pass ⟨0, 0, 0, 0⟩))).getD 8 (.Pass ⟨0, 0, 0, 0⟩))))
abbrev F_law_lam2 (cl : List (Str × Addr)) (c : Addr) : NdefX.NF := ⟨"<lambda>", qIn "law" ++ ("<lambda>" : Str), lmA e_law_lam2, [], lmS e_law_lam2, cl, c⟩
theorem sc_law_lam2 : NdefX.NScope ["_law_said"] [] ["_law_said"] (lmS e_law_lam2) := NdefX.nscope_by (by decide +kernel)
theorem nd_law_lam2 : NdefX.ndefB (defScope s_law) (lmS e_law_lam2) ["_law_said"] = true := by decide +kernel
theorem run_law_lam2 (T : Tx w K mg) (f : Addr) (cl : List (Str × Addr)) (c : Addr) : CRunX P w K mg base 5 f (LmO f (F_law_lam2 cl c) (lmB e_law_lam2)) c (qIn "law" ++ ("<lambda>" : Str)) cl [] ["_law_said"] (sp_law_lam2 T.e_NoText.C T.e_NoNumber.C) := by
  refine CRunX.lam (N := ["_law_said"]) (F := F_law_lam2 cl c) sc_law_lam2 (fun pm ctv us hl => match us, hl with | [], _ => rfl) (fun A outer s H vs ws Q E hr hw hl h => ?_)
  obtain ⟨v, rfl, rfl, h⟩ := h
  refine ⟨_, (pe_callN0 (ok_longest T) (hr.mono (by decide)) (by rfl) T.d_longest.g T.d_longest.F.kp (kb_longest_0_text T) (L2N.passes_call (L2N.takes_of rfl rfl rfl rfl) (fun _ _ _ _ h => h)) (pk_cons (pv 0) pk_nil)), ?_⟩
  obtain ⟨v', e, h⟩ := h
  cases e
  tm_at "rzs"
  exact h
def sp_law_lam3 (cX cN : Addr) (ws : List (Option V)) : Sp := fun vs H Q E => ∃ (v : V), ws = [some v] ∧ vs = [] ∧ sp_wished cX [v] H Q E
abbrev e_law_lam3 : Expr := (lmX 3 (lmT ((lmD ((defBody s_law).getD 0 (.Pass ⟨0, 0, 0, 0⟩))).getD 8 (.Pass ⟨0, 0, 0, 0⟩))))
abbrev F_law_lam3 (cl : List (Str × Addr)) (c : Addr) : NdefX.NF := ⟨"<lambda>", qIn "law" ++ ("<lambda>" : Str), lmA e_law_lam3, [], lmS e_law_lam3, cl, c⟩
theorem sc_law_lam3 : NdefX.NScope ["_law_said"] [] ["_law_said"] (lmS e_law_lam3) := NdefX.nscope_by (by decide +kernel)
theorem nd_law_lam3 : NdefX.ndefB (defScope s_law) (lmS e_law_lam3) ["_law_said"] = true := by decide +kernel
theorem run_law_lam3 (T : Tx w K mg) (f : Addr) (cl : List (Str × Addr)) (c : Addr) : CRunX P w K mg base 5 f (LmO f (F_law_lam3 cl c) (lmB e_law_lam3)) c (qIn "law" ++ ("<lambda>" : Str)) cl [] ["_law_said"] (sp_law_lam3 T.e_NoText.C T.e_NoNumber.C) := by
  refine CRunX.lam (N := ["_law_said"]) (F := F_law_lam3 cl c) sc_law_lam3 (fun pm ctv us hl => match us, hl with | [], _ => rfl) (fun A outer s H vs ws Q E hr hw hl h => ?_)
  obtain ⟨v, rfl, rfl, h⟩ := h
  refine ⟨_, (pe_callN0 (ok_wished T) (hr.mono (by decide)) (by rfl) T.d_wished.g T.d_wished.F.kp (kb_wished_0_text T) (L2N.passes_call (L2N.takes_of rfl rfl rfl rfl) (fun _ _ _ _ h => h)) (pk_cons (pv 0) pk_nil)), ?_⟩
  obtain ⟨v', e, h⟩ := h
  cases e
  tm_at "rzs"
  exact h
def sp_law_lam4 (cX cN : Addr) (ws : List (Option V)) : Sp := fun vs H Q E => ∃ (v u : V), ws = [some v, some u] ∧ vs = [] ∧ sp_wrapped cX cN [v, u] H Q E
abbrev e_law_lam4 : Expr := (lmX 0 (lmT ((lmD ((defBody s_law).getD 0 (.Pass ⟨0, 0, 0, 0⟩))).getD 11 (.Pass ⟨0, 0, 0, 0⟩))))
abbrev F_law_lam4 (cl : List (Str × Addr)) (c : Addr) : NdefX.NF := ⟨"<lambda>", qIn "law" ++ ("<lambda>" : Str), lmA e_law_lam4, [], lmS e_law_lam4, cl, c⟩
theorem sc_law_lam4 : NdefX.NScope ["_law_said", "_law_broad"] [] ["_law_said", "_law_broad"] (lmS e_law_lam4) := NdefX.nscope_by (by decide +kernel)
theorem nd_law_lam4 : NdefX.ndefB (defScope s_law) (lmS e_law_lam4) ["_law_said", "_law_broad"] = true := by decide +kernel
theorem run_law_lam4 (T : Tx w K mg) (f : Addr) (cl : List (Str × Addr)) (c : Addr) : CRunX P w K mg base 5 f (LmO f (F_law_lam4 cl c) (lmB e_law_lam4)) c (qIn "law" ++ ("<lambda>" : Str)) cl [] ["_law_said", "_law_broad"] (sp_law_lam4 T.e_NoText.C T.e_NoNumber.C) := by
  refine CRunX.lam (N := ["_law_said", "_law_broad"]) (F := F_law_lam4 cl c) sc_law_lam4 (fun pm ctv us hl => match us, hl with | [], _ => rfl) (fun A outer s H vs ws Q E hr hw hl h => ?_)
  obtain ⟨v, u, rfl, rfl, h⟩ := h
  refine ⟨_, (pe_call (ok_wrapped T) (hr.mono (by decide)) (by rfl) T.d_wrapped.g T.d_wrapped.F.kp T.d_wrapped.b .nil (L2N.passes_call (L2N.takes_of rfl rfl rfl rfl) (fun _ _ _ _ h => h)) (pa_cons (pv 0) (pa_cons (pv 1) pa_nil))), ?_⟩
  obtain ⟨v', u', e, h⟩ := h
  cases e
  tm_at "rzs"
  exact h
def sp_law_lam5 (cX cN : Addr) (ws : List (Option V)) : Sp := fun vs H Q E => ∃ (v u : V), ws = [some u, some v] ∧ vs = [] ∧ sp_wrapped cX cN [v, u] H Q E
abbrev e_law_lam5 : Expr := (lmX 1 (lmT ((lmD ((defBody s_law).getD 0 (.Pass ⟨0, 0, 0, 0⟩))).getD 11 (.Pass ⟨0, 0, 0, 0⟩))))
abbrev F_law_lam5 (cl : List (Str × Addr)) (c : Addr) : NdefX.NF := ⟨"<lambda>", qIn "law" ++ ("<lambda>" : Str), lmA e_law_lam5, [], lmS e_law_lam5, cl, c⟩
theorem sc_law_lam5 : NdefX.NScope ["_law_broad", "_law_said"] [] ["_law_broad", "_law_said"] (lmS e_law_lam5) := NdefX.nscope_by (by decide +kernel)
theorem nd_law_lam5 : NdefX.ndefB (defScope s_law) (lmS e_law_lam5) ["_law_broad", "_law_said"] = true := by decide +kernel
theorem run_law_lam5 (T : Tx w K mg) (f : Addr) (cl : List (Str × Addr)) (c : Addr) : CRunX P w K mg base 5 f (LmO f (F_law_lam5 cl c) (lmB e_law_lam5)) c (qIn "law" ++ ("<lambda>" : Str)) cl [] ["_law_broad", "_law_said"] (sp_law_lam5 T.e_NoText.C T.e_NoNumber.C) := by
  refine CRunX.lam (N := ["_law_broad", "_law_said"]) (F := F_law_lam5 cl c) sc_law_lam5 (fun pm ctv us hl => match us, hl with | [], _ => rfl) (fun A outer s H vs ws Q E hr hw hl h => ?_)
  obtain ⟨v, u, rfl, rfl, h⟩ := h
  refine ⟨_, (pe_callN0 (ok_wrapped T) (hr.mono (by decide)) (by rfl) T.d_wrapped.g T.d_wrapped.F.kp (kb_wrapped_0_wide_text T) (L2N.passes_call (L2N.takes_of rfl rfl rfl rfl) (fun _ _ _ _ h => h)) (pk_cons (pv 0) (pk_cons (pv 1) pk_nil))), ?_⟩
  obtain ⟨v', u', e, h⟩ := h
  cases e
  tm_at "rzs"
  exact h
theorem ok_law (T : Tx w K mg) (B : TBs T base) : FnOk P w K mg base CX0 10 T.d_law.f T.d_law.fd ["_law_script"] (sp_law (tabs T) K) := by
  refine okC T.d_law.F T.cc_law sc_law (fun vs H Q E h => ?_) (fun A outer s H vs Q E hr h => ?_)
  · obtain ⟨a, s, rfl, _⟩ := h
    rfl
  · obtain ⟨a, ns, rfl, hS, hl, hT, k⟩ := h
    refine ⟨_, (pss_cons (ps_for PassesOwn.never (by rfl) (pi_listK (K := K) rfl (pe_op (op_catK (K := K) rfl) (pe_lstA (pa_cons (pe_call (ok_w_cell_at T) (hr.mono (by decide)) (by rfl) T.d_w_cell_at.g T.d_w_cell_at.F.kp T.d_w_cell_at.b .nil pass0 (pa_cons (pv 0) (pa_cons pe_int pa_nil))) pa_nil)) (pe_slice (sl_listK (K := K) rfl) (pv 0) (po_some pe_int) (po_some pe_int)))) (pg_name (i := 1) sc_law.nd rfl (Or.inl rfl))
      (pss_cons (ps_set (i := 2) sc_law.nd rfl (Or.inl rfl) (pe_call (ok_w_source T) (hr.mono (by decide)) (by rfl) T.d_w_source.g T.d_w_source.F.kp T.d_w_source.b .nil pass0 (pa_cons (pv 1) pa_nil)))
      (pss_cons (ps_set (i := 3) sc_law.nd rfl (Or.inl rfl) (pe_cmpR op_eq (pe_call (ok_w_next T) (hr.mono (by decide)) (by rfl) T.d_w_next.g T.d_w_next.F.kp T.d_w_next.b .nil pass0 (pa_cons (pv 2) (pa_cons pe_int pa_nil))) pe_int (nomark _)))
      (pss_cons (ps_set (i := 4) sc_law.nd rfl (Or.inl rfl) (pe_cmpR op_eq (pe_call (ok_w_next T) (hr.mono (by decide)) (by rfl) T.d_w_next.g T.d_w_next.F.kp T.d_w_next.b .nil pass0 (pa_cons (pv 2) (pa_cons pe_int pa_nil))) pe_int (nomark _)))
      (pss_cons (ps_set (i := 8) sc_law.nd rfl (Or.inr rfl) (pe_call (ok_w_text T) (hr.mono (by decide)) (by rfl) T.d_w_text.g T.d_w_text.F.kp T.d_w_text.b .nil pass0 (pa_cons (pv 2) (pa_cons pe_int pa_nil))))
      (pss_cons (ps_set (i := 7) sc_law.nd rfl (Or.inr rfl) (pe_call (ok_w_next T) (hr.mono (by decide)) (by rfl) T.d_w_next.g T.d_w_next.F.kp T.d_w_next.b .nil pass0 (pa_cons (pv 2) (pa_cons (pe_ix (ix_listK (K := K) rfl) (pe_lstA (pa_cons pe_int (pa_cons pe_int (pa_cons (pe_op op_pow pe_int pe_int) pa_nil)))) (pe_call (ok_w_next T) (hr.mono (by decide)) (by rfl) T.d_w_next.g T.d_w_next.F.kp T.d_w_next.b .nil pass0 (pa_cons (pv 2) (pa_cons pe_int pa_nil))) (fun _ _ => rfl)) pa_nil))))
      (pss_cons (ps_if (pt_val (pv 3))
      (pss_one (ps_set (i := 8) sc_law.nd rfl (Or.inr rfl) (pe_call (ok_w_no_text T) (hr.mono (by decide)) (by rfl) T.d_w_no_text.g T.d_w_no_text.F.kp T.d_w_no_text.b .nil pass0 (pa_cons (pv 2) pa_nil))))
      pss_nil)
      (pss_cons (ps_if (pt_val (pv 4))
      (pss_one (ps_set (i := 7) sc_law.nd rfl (Or.inr rfl) (pe_call (ok_w_no_width T) (hr.mono (by decide)) (by rfl) T.d_w_no_width.g T.d_w_no_width.F.kp T.d_w_no_width.b .nil pass0 (pa_cons (pv 2) pa_nil))))
      pss_nil)
      (pss_cons (ps_set (i := 5) sc_law.nd rfl (Or.inl rfl) (pe_ix (ix_listK (K := K) rfl) (pe_lstA (pa_cons pe_str (pa_cons pe_str pa_nil))) (pe_callTy call_int1 (by rfl) T.b_int (by decide +kernel) (pa_cons (pv 3) pa_nil)) (fun _ _ => rfl)))
      (pss_cons (ps_set (i := 6) sc_law.nd rfl (Or.inl rfl) (pe_lstA (pa_cons (pe_lamN (T := tabs T) (B.law) (by rfl) T.m_law T.u_law (by rfl) (ndef_free nd_law_lam)) (pa_cons (pe_lamN (T := tabs T) (B.law) (by rfl) T.m_law T.u_law (by rfl) (ndef_free nd_law_lam1)) (pa_cons (pe_lamN (T := tabs T) (B.law) (by rfl) T.m_law T.u_law (by rfl) (ndef_free nd_law_lam2)) (pa_cons (pe_lamN (T := tabs T) (B.law) (by rfl) T.m_law T.u_law (by rfl) (ndef_free nd_law_lam3)) pa_nil))))))
      (pss_cons (ps_if (pt_cmpR (op_neTxK (K := K) hr.units rfl) (pe_lcZ (own := [("_law_ask", 9)]) (g := gName 9) (fr := ["_law_said", "_law_broad"]) (js := [8, 7]) (by rfl) sc_law.nd (fun ok => Caps.made ok (ndef_free nd_law_lam4) (ndef_fr nd_law_lam4) rfl) (fun ok => clo_in ok (ndef_free nd_law_lam4) (fun _ => rfl)) (by rfl) (pi_listK (K := K) rfl (pv 6)) (blkOk_by (own := [("_law_ask", 9)]) (N := N_law) (sc := defScope s_law) (by decide +kernel)) (fun _ _ _ _ _ => (pg_name (i := 9) sc_law.nd rfl (Or.inl rfl))) (fun _ _ _ _ _ => pts_nil) (fun _ _ _ _ _ => (pe_call (ok_w_refused T (P := P) (base := base)) (hr.mono (by decide)) (by rfl) T.d_w_refused.g T.d_w_refused.F.kp T.d_w_refused.b .nil pass0 (pa_cons (pv 9) pa_nil)))) (pe_op op_repA (pe_lstA (pa_cons (pv 5) pa_nil)) pe_int) (nomark _))
      (pss_one (ps_ret pe_bl))
      pss_nil)
      (pss_cons (ps_if (PW.pt (pw_and (pt_val (pv 4)) (pw_and1 (pt_not (pt_val (pv 3))))))
      (pss_one (ps_set (i := 5) sc_law.nd rfl (Or.inl rfl) pe_str))
      pss_nil)
      (pss_cons (ps_set (i := 6) sc_law.nd rfl (Or.inl rfl) (pe_lstA (pa_cons (pe_lamN (T := tabs T) (B.law) (by rfl) T.m_law T.u_law (by rfl) (ndef_free nd_law_lam4)) (pa_cons (pe_lamN (T := tabs T) (B.law) (by rfl) T.m_law T.u_law (by rfl) (ndef_free nd_law_lam5)) pa_nil))))
      (pss_cons (ps_if (pt_cmpR (op_neTxK (K := K) hr.units rfl) (pe_lcZ (own := [("_law_ask", 9)]) (g := gName 9) (fr := ["_law_said", "_law_broad"]) (js := [8, 7]) (by rfl) sc_law.nd (fun ok => Caps.made ok (ndef_free nd_law_lam4) (ndef_fr nd_law_lam4) rfl) (fun ok => clo_in ok (ndef_free nd_law_lam4) (fun _ => rfl)) (by rfl) (pi_listK (K := K) rfl (pv 6)) (blkOk_by (own := [("_law_ask", 9)]) (N := N_law) (sc := defScope s_law) (by decide +kernel)) (fun _ _ _ _ _ => (pg_name (i := 9) sc_law.nd rfl (Or.inl rfl))) (fun _ _ _ _ _ => pts_nil) (fun _ _ _ _ _ => (pe_call (ok_w_refused T (P := P) (base := base)) (hr.mono (by decide)) (by rfl) T.d_w_refused.g T.d_w_refused.F.kp T.d_w_refused.b .nil pass0 (pa_cons (pv 9) pa_nil)))) (pe_op op_repA (pe_lstA (pa_cons (pv 5) pa_nil)) pe_int) (nomark _))
      (pss_one (ps_ret pe_bl))
      pss_nil)
      (pss_one (ps_if (PW.pt (pw_and (pt_cmpR op_eq (pv 5) pe_str (nomark _)) (pw_and1 (pt_not (pt_val (pe_call (ok_w_by_names T) (hr.mono (by decide)) (by rfl) T.d_w_by_names.g T.d_w_by_names.F.kp T.d_w_by_names.b .nil pass0 (pa_cons (pv 8) (pa_cons (pv 7) pa_nil))))))))
      (pss_one (ps_ret pe_bl))
      pss_nil))))))))))))))))
      (pss_one (ps_ret pe_bl))), ?_⟩
    tm_at "rzs"
    intro p0 G0 f0 S0 g0
    tm_at "rzs"
    refine ⟨a, _, rfl, S0.seq hS, ?_⟩
    intro p1 G1 f1 S1 g1
    refine ⟨_, _, _, _, rfl, rfl, S1 _ _ g0, g1, cells_len hl, ?_⟩
    intro p2 G2 f2 S2 g2
    have T2 := hT.ext (S0.trans (S1.trans S2))
    generalize hcs : ([V.int (ns.headD 0)] ++ cutV (ns.map V.int) (some 1) (some 12)) = cells at g2
    have hci : ∀ i y, cells[i]? = some y → ∃ z, y = V.int z := fun i y h => cells_ints (by rw [hcs]; exact h)
    refine ⟨_, rfl, ⟨_, sqL g2⟩, for_list (K := K) (a := p2) (xs := cells) (fun i σ H3 => ∃ v1 v2 v3 v4 v5 v6 v7 v8 v9, σ = [some (.ref a), v1, v2, v3, v4, v5, v6, v7, v8, v9] ∧ H3 p2 = some (.lst cells) ∧ Tabs (tabs T) H3)
      ⟨_, _, _, _, _, _, _, _, _, rfl, g2, T2⟩ (fun i σ H3 _ ⟨_, _, _, _, _, _, _, _, _, _, q, _⟩ => sqL q) ?_ ?_⟩
    · rintro i y σ H3 hi ⟨v1, v2, v3, v4, v5, v6, v7, v8, v9, rfl, q3, T3⟩
      obtain ⟨z, rfl⟩ := hci i y hi
      tm_at "rzs"
      intro s H4 f4 S4 g4
      have hs4 : Src H4 s := ⟨_, g4⟩
      have T4 := T3.ext S4
      have np2 : p2 ≠ s := ne_of_none q3 f4
      have q4 := S4 _ _ q3
      dsimp only [gName]
      tm_at "rzs"
      intro nt H5 d5 lt ut
      tm_at "rzs"
      intro nw H6 d6 lw uw
      tm_at "rzs"
      intro l H7 d7 ll _
      dsimp only [gName]
      generalize decide (V.int nt = V.int 0) = bt
      generalize decide (V.int nw = V.int 0) = bw
      tm_at "rzs"
      intro p8 H8 f8 s8 g8
      have d07 := (d5.trans d6).trans d7
      have np8 : p8 ≠ s := d07.s.ne f8
      tm_at "rzs"
      intro n9 H9 d9 l9 u9
      obtain ⟨x9, hx9, far, rfl, far0, far1⟩ := pick3 (P := InR 1 (10 ^ 12 + 1)) l9 u9 ⟨3, rfl, by decide, by decide⟩ ⟨90, rfl, by decide, by decide⟩ ⟨10 ^ 12, rfl, by decide, by decide⟩
      refine ⟨_, _, _, _, rfl, rfl, sqL (d9.app np8 g8), hx9, ?_⟩
      have d09 : Dr s H4 H9 := (d07.same s8).trans d9
      tm_at "rzs"
      intro br H10 d10 lb ub
      have d010 := d09.trans d10
      dsimp only [gName]
      refine seq_key (t := tIfS _ _ _) (M := fun σ H' => ∃ (v : V), σ = [some (.ref a), some (.int z), some (.ref s), some (.bl bt), some (.bl bw), v5, v6, some (.int br), some v, v9] ∧ Dr s H4 H' ∧ SaidAt bt H' v) ?_ (fun N1 h1 => ?_)
      rotate_left
      · tm_at "rzs"
        cases bt with
        | false => 
          tm_at "rzs"
          exact h1 _ _ ⟨_, rfl, d010, .inl ⟨rfl, l, rfl, ll⟩⟩
        | true => 
          tm_at "rzs"
          intro v H11 d11 hv
          exact h1 _ _ ⟨_, rfl, d010.trans d11, .inr ⟨rfl, hv⟩⟩
      clear d010 d09 d07 d10 d9 d7 d6 d5
      rintro σ H12 ⟨v, rfl, d12, hv⟩
      refine seq_key (t := tIfS _ _ _) (M := fun σ H' => ∃ (u : V), σ = [some (.ref a), some (.int z), some (.ref s), some (.bl bt), some (.bl bw), v5, v6, some u, some v, v9] ∧ Dr s H4 H' ∧ SaidAt bt H' v ∧ BroadAt bw H' u) ?_ (fun N1 h1 => ?_)
      rotate_left
      · tm_at "rzs"
        cases bw with
        | false => 
          tm_at "rzs"
          exact h1 _ _ ⟨_, rfl, d12, hv, .inl ⟨rfl, br.toNat, by rw [Int.toNat_of_nonneg lb]⟩⟩
        | true => 
          tm_at "rzs"
          intro u H13 d13 hu ht
          exact h1 _ _ ⟨_, rfl, d12.trans d13, hv.kx (KeepX.dr d13 d12.s), .inr ⟨rfl, hu, ht⟩⟩
      clear d12 hv
      rintro σ H14 ⟨u, rfl, d14, hv, hu⟩
      have q14 := d14.app np2 q4
      have T14 := tabs_dr T4 d14 hs4
      tm_at "rzs"
      intro p15 H15 f15 s15 g15
      tm_at "rzs"
      refine ⟨_, _, _, _, rfl, rfl, sqL g15, (show _ = some (kindT (kg1 bt)) by cases bt <;> rfl), ?_⟩
      dsimp only [gName]
      tm_at "rzs"
      have T15 := T14.ext s15
      refine And.intro (a := Tabs (tabs T) _) T15 (fun fa c1 Ha xa Ta na ha ka => ?_)
      refine And.intro (a := Tabs (tabs T) _) Ta (fun fb c2 Hb xb Tb' nb hb kb => ?_)
      refine And.intro (a := Tabs (tabs T) _) Tb' (fun fc c3 Hc xc Tc nc hc kc => ?_)
      refine And.intro (a := Tabs (tabs T) _) Tc (fun fd c4 Hd xd Td nd hd kd => ?_)
      tm_at "rzs"
      intro p16 H16 f16 s16 g16
      dsimp only [gName]
      tm_at "rzs"
      have Hx14 : ExtN H14 H16 := (ExtN.of s15).trans ((xa.trans (xb.trans (xc.trans xd))).trans (ExtN.of s16))
      have q16 := Hx14 _ _ q14 fun ps z => by cases z
      have T16 := Td.ext s16
      have hv16 := hv.kx (KeepX.ext Hx14)
      have hu16 := hu.kx (KeepX.ext Hx14)
      refine ⟨⟨_, sqL g16⟩, fun H17 zz D hD => ?_⟩
      have s17 := zz.same
      have xad := (xb.trans (xc.trans xd)).trans (ExtN.of (s16.trans s17))
      have xbd := (xc.trans xd).trans (ExtN.of (s16.trans s17))
      have xcd := xd.trans (ExtN.of (s16.trans s17))
      have xdd := ExtN.of (s16.trans s17)
      have A1 : AskF P w K mg base 6 T.e_NoText.C T.e_NoNumber.C (kg1 bt) H17 fa := AskF.of (run_law_lam T fa _ c1) (by decide) fnAt_lmO (xad _ _ ha lmO_ne) (xad _ _ ka codeO_ne) (zz.toCelZ.clo (names' := (lmS e_law_lam).names) (fr' := ["_law_said"]) (ws' := [some v]) (by decide +kernel) (by decide +kernel) [0] rfl rfl) fun G Q' E' kx h0 h1 _ => ⟨v, rfl, rfl, long_of (hv16.kx ((KeepX.same s17).trans kx)) h0 h1⟩
      have A2 : AskF P w K mg base 6 T.e_NoText.C T.e_NoNumber.C (kg1 bt) H17 fb := AskF.of (run_law_lam1 T fb _ c2) (by decide) fnAt_lmO (xbd _ _ hb lmO_ne) (xbd _ _ kb codeO_ne) (zz.toCelZ.clo (names' := (lmS e_law_lam1).names) (fr' := ["_law_said"]) (ws' := [some v]) (by decide +kernel) (by decide +kernel) [0] rfl rfl) fun G Q' E' kx h0 h1 _ => ⟨v, rfl, rfl, wish_of (hv16.kx ((KeepX.same s17).trans kx)) h0 h1⟩
      have A3 : AskF P w K mg base 6 T.e_NoText.C T.e_NoNumber.C (kg1 bt) H17 fc := AskF.of (run_law_lam2 T fc _ c3) (by decide) fnAt_lmO (xcd _ _ hc lmO_ne) (xcd _ _ kc codeO_ne) (zz.toCelZ.clo (names' := (lmS e_law_lam2).names) (fr' := ["_law_said"]) (ws' := [some v]) (by decide +kernel) (by decide +kernel) [0] rfl rfl) fun G Q' E' kx h0 h1 _ => ⟨v, rfl, rfl, long_of (hv16.kx ((KeepX.same s17).trans kx)) h0 h1⟩
      have A4 : AskF P w K mg base 6 T.e_NoText.C T.e_NoNumber.C (kg1 bt) H17 fd := AskF.of (run_law_lam3 T fd _ c4) (by decide) fnAt_lmO (xdd _ _ hd lmO_ne) (xdd _ _ kd codeO_ne) (zz.toCelZ.clo (names' := (lmS e_law_lam3).names) (fr' := ["_law_said"]) (ws' := [some v]) (by decide +kernel) (by decide +kernel) [0] rfl rfl) fun G Q' E' kx h0 h1 _ => ⟨v, rfl, rfl, wish_of (hv16.kx ((KeepX.same s17).trans kx)) h0 h1⟩
      refine lcLm (K := K) (ys := [fa, fb, fc, fd]) V.ref (fun _ => kindT (kg1 bt)) hD (sqL (s17 _ _ g16)) (Nat.le_of_ble_eq_true rfl) (fun i f H' Kt Kf hf s18 kt => ?_) (fun H18 s18 g18 zl => ?_)
      · obtain ⟨sp, hc, hb⟩ : AskF P w K mg base 6 T.e_NoText.C T.e_NoNumber.C (kg1 bt) H17 f := by
          have := List.mem_of_getElem? hf
          simp only [List.mem_cons, List.not_mem_nil, or_false] at this
          rcases this with rfl | rfl | rfl | rfl <;> assumption
        tm_at "rzs"
        exact ⟨f, sp, kg1 bt, rfl, by cases bt <;> decide, hc.same s18, hb H' s18, fun H'' s'' => kt H'' s''⟩
      have sz := zz.back s18
      have g19 := (dropC_out (H := H18) (zz.far hD)).trans g18
      generalize dropC _ H18 = H19 at sz g19
      clear A1 A2 A3 A4 zl g18 s18 zz s17 xad xbd xcd xdd hD
      have sl := fun p => sz p
      have q19 := sz _ _ q16
      have T19 := T16.ext sz
      have hv19 := hv16.kx (KeepX.same sz)
      have hu19 := hu16.kx (KeepX.same sz)
      tm_at "rzs"
      intro p20 H20 f20 s20 g20
      tm_at "rzs"
      refine ⟨p20, _, _, rfl, rfl, g20, by decide, by decide, (show 1 * _ ≤ sizeLine from by rw [sizeLine_eq]; exact Nat.le_of_ble_eq_true rfl), fun p21 H21 f21 s21 g21 => ?_⟩
      obtain ⟨kl, ek⟩ := kind_is (kg1 bt)
      have g191 : H21 D = some (.lst ([kl, kl, kl, kl].map txV)) := (s21 _ _ (s20 _ _ g19)).trans (congrArg (fun x => some (HO.lst x)) (show [kindT (kg1 bt), kindT (kg1 bt), kindT (kg1 bt), kindT (kg1 bt)] = _ by rw [ek]; rfl))
      have g211 : H21 p21 = some (.lst ([kl, kl, kl, kl].map txV)) := g21.trans (congrArg (fun x => some (HO.lst x)) (show [kindT (kg1 bt), kindT (kg1 bt), kindT (kg1 bt), kindT (kg1 bt)] = _ by rw [ek]; rfl))
      refine ⟨D, p21, _, _, rfl, rfl, sqL g191, sqL g211, ?_⟩
      rw [decide_eq_true rfl]
      refine ⟨_, rfl, iteF' rfl ?_⟩
      dsimp only [tNext]
      refine seq_key (t := tIfS _ _ _) (M := fun σ H' => σ = [some (.ref a), some (.int z), some (.ref s), some (.bl bt), some (.bl bw), some (kindT (kg2 bt bw)), some (.ref p16), some u, some v, v9] ∧ H21 = H') ?_ (fun N1 h1 => ?_)
      rotate_left
      · tm_at "rzs"
        cases bw <;> cases bt <;> tm_at "rzs" <;> exact h1 _ _ ⟨rfl, rfl⟩
      rintro σ _ ⟨rfl, rfl⟩
      have s21' := s20.trans s21
      have q21 := s21' _ _ q19
      have T21 := T19.ext s21'
      have hv21 := hv19.kx (KeepX.same s21')
      have hu21 := hu19.kx (KeepX.same s21')
      clear hv19 hu19 T19 q19 g19 g191 g211 g20 g21 ek kl
      tm_at "rzs"
      intro fe c5 He xe Te ne he ke
      refine And.intro (a := Tabs (tabs T) _) Te (fun ff c6 Hf xf Tf nf hf kf => ?_)
      tm_at "rzs"
      intro p22 H22 f22 s22 g22
      dsimp only [gName]
      have Hx22 : ExtN H21 H22 := (xe.trans xf).trans (ExtN.of s22)
      have q22 := Hx22 _ _ q21 fun ps z => by cases z
      have T22 := Tf.ext s22
      have hv22 := hv21.kx (KeepX.ext Hx22)
      have hu22 := hu21.kx (KeepX.ext Hx22)
      tm_at "rzs"
      refine ⟨⟨_, sqL g22⟩, fun H23 zz D2 hD => ?_⟩
      have s23 := zz.same
      have xed := xf.trans (ExtN.of (s22.trans s23))
      have xfd := ExtN.of (s22.trans s23)
      have A1 : AskF P w K mg base 6 T.e_NoText.C T.e_NoNumber.C (kg2 bt bw) H23 fe := AskF.of (run_law_lam4 T fe _ c5) (by decide) fnAt_lmO (xed _ _ he lmO_ne) (xed _ _ ke codeO_ne) (zz.toCelZ.clo (names' := (lmS e_law_lam4).names) (fr' := ["_law_said", "_law_broad"]) (ws' := [some v, some u]) (by decide +kernel) (by decide +kernel) [0, 1] rfl rfl) fun G Q' E' kx h0 h1 h2 => ⟨v, u, rfl, rfl, wrap_of (hv22.kx ((KeepX.same s23).trans kx)) (hu22.kx ((KeepX.same s23).trans kx)) h0 h1 h2⟩
      have A2 : AskF P w K mg base 6 T.e_NoText.C T.e_NoNumber.C (kg2 bt bw) H23 ff := AskF.of (run_law_lam5 T ff _ c6) (by decide) fnAt_lmO (xfd _ _ hf lmO_ne) (xfd _ _ kf codeO_ne) (zz.toCelZ.clo (names' := (lmS e_law_lam5).names) (fr' := ["_law_broad", "_law_said"]) (ws' := [some u, some v]) (by decide +kernel) (by decide +kernel) [1, 0] rfl rfl) fun G Q' E' kx h0 h1 h2 => ⟨v, u, rfl, rfl, wrap_of (hv22.kx ((KeepX.same s23).trans kx)) (hu22.kx ((KeepX.same s23).trans kx)) h0 h1 h2⟩
      refine lcLm (K := K) (ys := [fe, ff]) V.ref (fun _ => kindT (kg2 bt bw)) hD (sqL (s23 _ _ g22)) (Nat.le_of_ble_eq_true rfl) (fun i f H' Kt Kf hf s18 kt => ?_) (fun H24 s24 g24 zl => ?_)
      · obtain ⟨sp, hc, hb⟩ : AskF P w K mg base 6 T.e_NoText.C T.e_NoNumber.C (kg2 bt bw) H23 f := by
          have := List.mem_of_getElem? hf
          simp only [List.mem_cons, List.not_mem_nil, or_false] at this
          rcases this with rfl | rfl <;> assumption
        tm_at "rzs"
        exact ⟨f, sp, kg2 bt bw, rfl, by cases bt <;> cases bw <;> decide, hc.same s18, hb H' s18, fun H'' s'' => kt H'' s''⟩
      have sz2 := zz.back s24
      have g25 := (dropC_out (H := H24) (zz.far hD)).trans g24
      generalize dropC _ H24 = H25 at sz2 g25
      clear A1 A2 zl g24 s24 zz s23 xed xfd hD
      have q25 := sz2 _ _ q22
      have T25 := T22.ext sz2
      have hv25 := hv22.kx (KeepX.same sz2)
      have hu25 := hu22.kx (KeepX.same sz2)
      tm_at "rzs"
      intro p26 H26 f26 s26 g26
      tm_at "rzs"
      refine ⟨p26, _, _, rfl, rfl, g26, by decide, by decide, (show 1 * _ ≤ sizeLine from by rw [sizeLine_eq]; exact Nat.le_of_ble_eq_true rfl), fun p27 H27 f27 s27 g27 => ?_⟩
      obtain ⟨kl, ek⟩ := kind_is (kg2 bt bw)
      have g251 : H27 D2 = some (.lst ([kl, kl].map txV)) := (s27 _ _ (s26 _ _ g25)).trans (congrArg (fun x => some (HO.lst x)) (show [kindT (kg2 bt bw), kindT (kg2 bt bw)] = _ by rw [ek]; rfl))
      have g271 : H27 p27 = some (.lst ([kl, kl].map txV)) := g27.trans (congrArg (fun x => some (HO.lst x)) (show [kindT (kg2 bt bw), kindT (kg2 bt bw)] = _ by rw [ek]; rfl))
      refine ⟨D2, p27, _, _, rfl, rfl, sqL g251, sqL g271, ?_⟩
      rw [decide_eq_true rfl]
      refine ⟨_, rfl, iteF' rfl ?_⟩
      dsimp only [tNext]
      have s27' := s26.trans s27
      have q27 := s27' _ _ q25
      have T27 := T25.ext s27'
      have hv27 := hv25.kx (KeepX.same s27')
      have hu27 := hu25.kx (KeepX.same s27')
      clear hv25 hu25 T25 q25 g25 g251 g271 g26 g27 ek kl
      tm_at "rzs"
      rcases hv27 with ⟨rfl, l', rfl, ll'⟩ | ⟨rfl, hn⟩
      · rcases hu27 with ⟨rfl, m, rfl⟩ | ⟨rfl, hn, ht⟩
        · dsimp only [kg2, kindT]
          tm_at "rzs"
          intro H28 s28
          tm_at "rzs"
          exact ⟨_, _, _, _, _, _, _, _, _, rfl, s28 _ _ q27, T27.ext s28⟩
        · dsimp only [kg2, kindT]
          tm_at "rzs"
          exact ⟨_, _, _, _, _, _, _, _, _, rfl, q27, T27⟩
      · dsimp only [kg2, kindT]
        tm_at "rzs"
        exact ⟨_, _, _, _, _, _, _, _, _, rfl, q27, T27⟩
    · rintro σ H3 ⟨v1, v2, v3, v4, v5, v6, v7, v8, v9, rfl, q3, T3⟩
      tm_at "rzs"
      exact k _
end
end My
namespace My
open PySem PySem.Spec PyProof.Rows L2 LamX
theorem law_end {l : PySem.W.OpenLaw} {w : World} {K : PySem.W.Frag} {mg : Str → Option Value} {fa : Addr} {h : Heap} {ts : List Addr} (hfa : mg "law" = some (.ref fa)) (KX : K.In h) (hT : ∀ P ∈ ts, h.get? P = some (PySem.W.tabObj #[])) (T : Tx w K mg) (ets : ts = (tabCs T).map (·.2)) : LawAtS l w K CX0 10 63 "_law_script" mg fa h := by
  have e := hfa.symm.trans T.d_law.g
  cases e
  refine ⟨T.d_law.fd, tabCs T, sp_law (tabs T) K, fun p m => hT p.2 (by rw [ets]; exact List.mem_map.mpr ⟨p, m, rfl⟩), fun p m => ?_, fun p m => ?_, fun s v => ?_, fun H a ns hl hb ht hS => ⟨a, ns, rfl, hS, hl, fun p m => ?_, fun _ => rfl⟩, fun base _ _ tb => ok_law T ⟨tb (T.k_law, T.p_law) (by unfold tabCs; simp)⟩⟩
  · unfold tabCs at m
    simp only [List.mem_cons, List.not_mem_nil, or_false] at m
    rcases m with rfl
    · exact T.nk_law
  · unfold tabCs at m
    simp only [List.mem_cons, List.not_mem_nil, or_false] at m
    rcases m with rfl
    · exact PySem.W.codeHd_of_K KX T.hd_law
  · obtain ⟨oc, od, kV, doc, pm, an, cdv, ct, osl, e, _, _⟩ := T.d_law.F.ex
    rw [e]
    exact .of_eq rfl
  · unfold tabs at m
    unfold tabCs at ht
    simp only [List.mem_cons, List.not_mem_nil, or_false] at m
    rcases m with rfl
    · exact TabS.nil (ht (T.k_law, T.p_law) (by simp))
end My
open PySem PySem.W PyProof.Rows
set_option maxRecDepth 100000 in
set_option maxHeartbeats 0 in
theorem PySem.Challenge.cw_nestlaid_k10_what_cannot_be_wrapped_holds : PySem.Challenge.rw_nestlaid_k10_what_cannot_be_wrapped.Holds := by
  refine MyHead.enter ?_
  k_fill
  refine LamX.walk_ofTs (l := PySem.Challenge.rw_nestlaid_k10_what_cannot_be_wrapped) (n := 63) (k := 10) (x := "_law_script") (CX := fun _ => L2.CX0) rfl (by decide) rfl ⟨rfl, by decide, by decide⟩ (fun w h Y => PySem.W.km_in_of Y) ?F (fun _ _ _ _ _ h => h)
  case F =>
    intro w mg fa h Y KX G hmg
    refine' My.law_end hmg KX (PySem.W.km_tabs_of Y) { d_NoText_init := My.inx_mk ?xNoText_init0 ?xNoText_init1 ?xNoText_init2 ?xNoText_init3 ?xNoText_init4 ?xNoText_init5 ?xNoText_init6 ?xNoText_init7 ?xNoText_init8 ?xNoText_init9 ?xNoText_init10 ?xNoText_init11 ?xNoText_init12 (by intro z; cases z) ?xNoText_init13, d_is_whole := My.df_mk KX G ?a1 ?l1 ?c1 ?k1 (fun _ _ _ _ _ _ us hl => match us, hl with | [_], _ => rfl), d_is_from_nought := My.df_mk KX G ?a2 ?l2 ?c2 ?k2 (fun _ _ _ _ _ _ us hl => match us, hl with | [_], _ => rfl), d_words_in := My.df_mk KX G ?a3 ?l3 ?c3 ?k3 (fun _ _ _ _ _ _ us hl => match us, hl with | [_], _ => rfl), d_check_text := My.df_mk KX G ?a4 ?l4 ?c4 ?k4 (fun _ _ _ _ _ _ us hl => match us, hl with | [_], _ => rfl), d_longest_in := My.df_mk KX G ?a5 ?l5 ?c5 ?k5 (fun _ _ _ _ _ _ us hl => match us, hl with | [_], _ => rfl), d_wished_in := My.df_mk KX G ?a6 ?l6 ?c6 ?k6 (fun _ _ _ _ _ _ us hl => match us, hl with | [_], _ => rfl), d_lines_of := My.df_mk KX G ?a7 ?l7 ?c7 ?k7 (fun _ _ _ _ _ _ us hl => match us, hl with | [_, _], _ => rfl), d_wrapped_in := My.df_mk KX G ?a8 ?l8 ?c8 ?k8 (fun _ _ _ _ _ _ us hl => match us, hl with | [_, _], _ => rfl), d_longest := My.df_mk KX G ?a9 ?l9 ?c9 ?k9 (fun _ _ _ _ _ _ us hl => match us, hl with | [_], _ => rfl), d_wished := My.df_mk KX G ?a10 ?l10 ?c10 ?k10 (fun _ _ _ _ _ _ us hl => match us, hl with | [_], _ => rfl), d_wrapped := My.df_mk KX G ?a11 ?l11 ?c11 ?k11 (fun _ _ _ _ _ _ us hl => match us, hl with | [_, _], _ => rfl), d_w_cell_at := My.df_mk KX G ?a12 ?l12 ?c12 ?k12 (fun _ _ _ _ _ _ us hl => match us, hl with | [_, _], _ => rfl), d_w_mixed := My.df_mk KX G ?a13 ?l13 ?c13 ?k13 (fun _ _ _ _ _ _ us hl => match us, hl with | [_, _], _ => rfl), d_w_source := My.df_mk KX G ?a14 ?l14 ?c14 ?k14 (fun _ _ _ _ _ _ us hl => match us, hl with | [_], _ => rfl), d_w_next := My.df_mk KX G ?a15 ?l15 ?c15 ?k15 (fun _ _ _ _ _ _ us hl => match us, hl with | [_, _], _ => rfl), d_w_word := My.df_mk KX G ?a16 ?l16 ?c16 ?k16 (fun _ _ _ _ _ _ us hl => match us, hl with | [_], _ => rfl), d_w_text := My.df_mk KX G ?a17 ?l17 ?c17 ?k17 (fun _ _ _ _ _ _ us hl => match us, hl with | [_, _], _ => rfl), d_w_refused := My.df_mk KX G ?a18 ?l18 ?c18 ?k18 (fun _ _ _ _ _ _ us hl => match us, hl with | [_], _ => rfl), d_w_no_width := My.df_mk KX G ?a19 ?l19 ?c19 ?k19 (fun _ _ _ _ _ _ us hl => match us, hl with | [_], _ => rfl), d_w_no_text := My.df_mk KX G ?a20 ?l20 ?c20 ?k20 (fun _ _ _ _ _ _ us hl => match us, hl with | [_], _ => rfl), d_w_by_names := My.df_mk KX G ?a21 ?l21 ?c21 ?k21 (fun _ _ _ _ _ _ us hl => match us, hl with | [_, _], _ => rfl), d_law := My.df_mk KX G ?a22 ?l22 ?c22 ?k22 (fun _ _ _ _ _ _ us hl => match us, hl with | [_], _ => rfl), k_law := 270, p_law := 268, cc_law := ?cc_law, hd_law := ?hd_law, nk_law := ?nk_law, b_ValueError := PySem.W.mg_none_of KX G ?z_ValueError, b_all := PySem.W.mg_none_of KX G ?z_all, b_bool := PySem.W.mg_none_of KX G ?z_bool, b_int := PySem.W.mg_none_of KX G ?z_int, b_isinstance := PySem.W.mg_none_of KX G ?z_isinstance, b_len := PySem.W.mg_none_of KX G ?z_len, b_list := PySem.W.mg_none_of KX G ?z_list, b_max := PySem.W.mg_none_of KX G ?z_max, b_range := PySem.W.mg_none_of KX G ?z_range, b_str := PySem.W.mg_none_of KX G ?z_str, e_NestError := My.ex_mk KX G ?eNestError0 ?eNestError1 ?eNestError2 ?eNestError3 ?eNestError4 ?eNestError5 ?eNestError6 ?eNestError7 ?eNestError8 ?eNestError9 ?eNestError10 ?eNestError11, e_NoNumber := My.ex_mk KX G ?eNoNumber0 ?eNoNumber1 ?eNoNumber2 ?eNoNumber3 ?eNoNumber4 ?eNoNumber5 ?eNoNumber6 ?eNoNumber7 ?eNoNumber8 ?eNoNumber9 ?eNoNumber10 ?eNoNumber11, e_NoText := My.ec_mk KX G ?eNoText0 ?eNoText1 ?eNoText2, e_NoName := My.ec_mk KX G ?eNoName0 ?eNoName1 ?eNoName2, e_NoRow := My.ec_mk KX G ?eNoRow0 ?eNoRow1 ?eNoRow2, e_NoStyle := My.ec_mk KX G ?eNoStyle0 ?eNoStyle1 ?eNoStyle2, e_NoTree := My.ec_mk KX G ?eNoTree0 ?eNoTree1 ?eNoTree2, e_NoWord := My.ec_mk KX G ?eNoWord0 ?eNoWord1 ?eNoWord2, e_NoWords := My.ec_mk KX G ?eNoWords0 ?eNoWords1 ?eNoWords2, r_NoNumber := ?r_NoNumber, v_NoNumber := ?v_NoNumber, i_NoNumber_NoNumber := ?i_NoNumber_NoNumber, i_NoNumber_NoText := ?i_NoNumber_NoText, i_NoNumber_NoName := ?i_NoNumber_NoName, i_NoNumber_NoRow := ?i_NoNumber_NoRow, i_NoNumber_NoStyle := ?i_NoNumber_NoStyle, i_NoNumber_NoTree := ?i_NoNumber_NoTree, i_NoNumber_NoWord := ?i_NoNumber_NoWord, i_NoNumber_NoWords := ?i_NoNumber_NoWords, r_NoText := ?r_NoText, v_NoText := ?v_NoText, i_NoText_NoNumber := ?i_NoText_NoNumber, i_NoText_NoText := ?i_NoText_NoText, i_NoText_NoName := ?i_NoText_NoName, i_NoText_NoRow := ?i_NoText_NoRow, i_NoText_NoStyle := ?i_NoText_NoStyle, i_NoText_NoTree := ?i_NoText_NoTree, i_NoText_NoWord := ?i_NoText_NoWord, i_NoText_NoWords := ?i_NoText_NoWords, n_NoText_line := ?n_NoText_line, x_NoText := My.xt_mk ?xt0 ?xt1 ?xt2 ?xt3 ?xt4 ?xt5 ?xt6 ?xt7, xf_NoText := ⟨?xf0, ?xf1, ?xf2, ?xf3⟩ } rfl
    (case a1 => k_is)
    (case l1 => k_is)
    (case c1 => k_is)
    (case k1 => k_is)
    (case a2 => k_is)
    (case l2 => k_is)
    (case c2 => k_is)
    (case k2 => k_is)
    (case a3 => k_is)
    (case l3 => k_is)
    (case c3 => k_is)
    (case k3 => k_is)
    (case a4 => k_is)
    (case l4 => k_is)
    (case c4 => k_is)
    (case k4 => k_is)
    (case a5 => k_is)
    (case l5 => k_is)
    (case c5 => k_is)
    (case k5 => k_is)
    (case a6 => k_is)
    (case l6 => k_is)
    (case c6 => k_is)
    (case k6 => k_is)
    (case a7 => k_is)
    (case l7 => k_is)
    (case c7 => k_is)
    (case k7 => k_is)
    (case a8 => k_is)
    (case l8 => k_is)
    (case c8 => k_is)
    (case k8 => k_is)
    (case a9 => k_is)
    (case l9 => k_is)
    (case c9 => k_is)
    (case k9 => k_is)
    (case a10 => k_is)
    (case l10 => k_is)
    (case c10 => k_is)
    (case k10 => k_is)
    (case a11 => k_is)
    (case l11 => k_is)
    (case c11 => k_is)
    (case k11 => k_is)
    (case a12 => k_is)
    (case l12 => k_is)
    (case c12 => k_is)
    (case k12 => k_is)
    (case a13 => k_is)
    (case l13 => k_is)
    (case c13 => k_is)
    (case k13 => k_is)
    (case a14 => k_is)
    (case l14 => k_is)
    (case c14 => k_is)
    (case k14 => k_is)
    (case a15 => k_is)
    (case l15 => k_is)
    (case c15 => k_is)
    (case k15 => k_is)
    (case a16 => k_is)
    (case l16 => k_is)
    (case c16 => k_is)
    (case k16 => k_is)
    (case a17 => k_is)
    (case l17 => k_is)
    (case c17 => k_is)
    (case k17 => k_is)
    (case a18 => k_is)
    (case l18 => k_is)
    (case c18 => k_is)
    (case k18 => k_is)
    (case a19 => k_is)
    (case l19 => k_is)
    (case c19 => k_is)
    (case k19 => k_is)
    (case a20 => k_is)
    (case l20 => k_is)
    (case c20 => k_is)
    (case k20 => k_is)
    (case a21 => k_is)
    (case l21 => k_is)
    (case c21 => k_is)
    (case k21 => k_is)
    (case a22 => k_is)
    (case l22 => k_is)
    (case c22 => k_is)
    (case k22 => k_is)
    (case hd_law => kernel_rfl)
    (case nk_law => kernel_rfl)
    (case cc_law => first | rfl | k_is)
    (case z_ValueError => k_is)
    (case z_all => k_is)
    (case z_bool => k_is)
    (case z_int => k_is)
    (case z_isinstance => k_is)
    (case z_len => k_is)
    (case z_list => k_is)
    (case z_max => k_is)
    (case z_range => k_is)
    (case z_str => k_is)
    (case eNestError0 => k_is)
    (case eNestError1 => k_exc)
    (case eNestError2 => k_is)
    (case eNestError3 => k_is)
    (case eNestError4 => k_is)
    (case eNestError5 => k_is)
    (case eNestError6 => k_is)
    (case eNestError7 => k_is)
    (case eNestError8 => k_is)
    (case eNestError9 => k_is)
    (case eNestError10 => k_is)
    (case eNestError11 => k_is)
    (case eNoNumber0 => k_is)
    (case eNoNumber1 => k_exc)
    (case eNoNumber2 => k_is)
    (case eNoNumber3 => k_is)
    (case eNoNumber4 => k_is)
    (case eNoNumber5 => k_is)
    (case eNoNumber6 => k_is)
    (case eNoNumber7 => k_is)
    (case eNoNumber8 => k_is)
    (case eNoNumber9 => k_is)
    (case eNoNumber10 => k_is)
    (case eNoNumber11 => k_is)
    (case eNoText0 => k_is)
    (case eNoText1 => k_is)
    (case eNoText2 => k_is)
    (case eNoName0 => k_is)
    (case eNoName1 => k_is)
    (case eNoName2 => k_is)
    (case eNoRow0 => k_is)
    (case eNoRow1 => k_is)
    (case eNoRow2 => k_is)
    (case eNoStyle0 => k_is)
    (case eNoStyle1 => k_is)
    (case eNoStyle2 => k_is)
    (case eNoTree0 => k_is)
    (case eNoTree1 => k_is)
    (case eNoTree2 => k_is)
    (case eNoWord0 => k_is)
    (case eNoWord1 => k_is)
    (case eNoWord2 => k_is)
    (case eNoWords0 => k_is)
    (case eNoWords1 => k_is)
    (case eNoWords2 => k_is)
    (case r_NoNumber => (try dsimp only [My.ex_mk, My.ec_mk]); k_is)
    (case v_NoNumber => (try dsimp only [My.ex_mk, My.ec_mk]); k_is)
    (case i_NoNumber_NoNumber => (try dsimp only [My.ex_mk, My.ec_mk]); k_is)
    (case i_NoNumber_NoText => (try dsimp only [My.ex_mk, My.ec_mk]); k_is)
    (case i_NoNumber_NoName => (try dsimp only [My.ex_mk, My.ec_mk]); k_is)
    (case i_NoNumber_NoRow => (try dsimp only [My.ex_mk, My.ec_mk]); k_is)
    (case i_NoNumber_NoStyle => (try dsimp only [My.ex_mk, My.ec_mk]); k_is)
    (case i_NoNumber_NoTree => (try dsimp only [My.ex_mk, My.ec_mk]); k_is)
    (case i_NoNumber_NoWord => (try dsimp only [My.ex_mk, My.ec_mk]); k_is)
    (case i_NoNumber_NoWords => (try dsimp only [My.ex_mk, My.ec_mk]); k_is)
    (case r_NoText => (try dsimp only [My.ex_mk, My.ec_mk]); k_is)
    (case v_NoText => (try dsimp only [My.ex_mk, My.ec_mk]); k_is)
    (case i_NoText_NoNumber => (try dsimp only [My.ex_mk, My.ec_mk]); k_is)
    (case i_NoText_NoText => (try dsimp only [My.ex_mk, My.ec_mk]); k_is)
    (case i_NoText_NoName => (try dsimp only [My.ex_mk, My.ec_mk]); k_is)
    (case i_NoText_NoRow => (try dsimp only [My.ex_mk, My.ec_mk]); k_is)
    (case i_NoText_NoStyle => (try dsimp only [My.ex_mk, My.ec_mk]); k_is)
    (case i_NoText_NoTree => (try dsimp only [My.ex_mk, My.ec_mk]); k_is)
    (case i_NoText_NoWord => (try dsimp only [My.ex_mk, My.ec_mk]); k_is)
    (case i_NoText_NoWords => (try dsimp only [My.ex_mk, My.ec_mk]); k_is)
    (case n_NoText_line => (try dsimp only [My.ex_mk, My.ec_mk]); k_is)
    (case xt0 => (try dsimp only [My.ec_mk]); k_is)
    (case xt1 => (try dsimp only [My.ec_mk]); k_is)
    (case xt2 => (try dsimp only [My.ec_mk]); k_is)
    (case xt3 => (try dsimp only [My.ec_mk]); k_is)
    (case xt4 => (try dsimp only [My.ec_mk]); k_is)
    (case xt5 => (try dsimp only [My.ec_mk]); k_is)
    (case xt6 => (try dsimp only [My.ec_mk]); k_is)
    (case xt7 => (try dsimp only [My.ec_mk]); k_is)
    (case xf0 => (try dsimp only [My.ec_mk]); k_is)
    (case xf1 => (try dsimp only [My.ec_mk]); k_is)
    (case xf2 => (try dsimp only [My.ec_mk]); k_is)
    (case xf3 => (try dsimp only [My.ec_mk]); k_is)
    (case xNoText_init0 => (try dsimp only [My.ec_mk]); k_is)
    (case xNoText_init1 => (try dsimp only [My.ec_mk]); k_is)
    (case xNoText_init2 => kernel_rfl)
    (case xNoText_init3 => (try dsimp only [My.ec_mk]); k_is)
    (case xNoText_init4 => (try dsimp only [My.ec_mk]); k_is)
    (case xNoText_init5 => (try dsimp only [My.ec_mk]); k_is)
    (case xNoText_init6 => (try dsimp only [My.ec_mk]); k_is)
    (case xNoText_init7 => (try dsimp only [My.ec_mk]); k_is)
    (case xNoText_init8 => (try dsimp only [My.ec_mk]); k_is)
    (case xNoText_init9 => (try dsimp only [My.ec_mk]); k_is)
    (case xNoText_init10 => (try dsimp only [My.ec_mk]); k_is)
    (case xNoText_init11 => (try dsimp only [My.ec_mk]); k_is)
    (case xNoText_init12 => rfl)
    (case xNoText_init13 => exact (.cons (by first | exact rfl | exact ⟨_, rfl⟩) .nil))
#print axioms PySem.Challenge.cw_nestlaid_k10_what_cannot_be_wrapped_holds
