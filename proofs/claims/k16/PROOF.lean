import PyProof.Rows.All
import Wide.All
import OpenK.AllK
import Wide.FinOn
import HandS.ForMost
import HandS.ForExc
import HandS.Wide
import HandS.IsInst
import HandS.Defaults
import HandS.MakeKwOnly
import HandS.Flow
import HandS.EndBits
import HandS.Style
import HandS.Conv
import HandS.Deep
import HandS.Codes
import PyProof.StrOps2
import HandS.ReplaceLit
import HandS.Iter
import HandS.ExcIs
import HandS.ExcOwn
import HandS.WordsExc
import HandS.DeepEq
import HandS.Zip
import HandS.TupAny
import HandS.NoneIn
import HandS.HotCalls
import HandS.ExcCtx
import PyProof.Seq
import HandS.OwnEq
import HandS.Text
import HandS.More
import PyProof.NeKinds
import PyProof.FactsAll.subtypes_4
import PyProof.FactsAll.dict_2
import PyProof.EqKinds
import PyProof.FactsAll.dict_1
import PySem.Challenge.RW_nestlaid_k16_styles_refused
set_option Elab.async false
set_option linter.all false
set_option maxRecDepth 100000
set_option maxHeartbeats 4000000
namespace My
open PySem PySem.Spec PyProof.Rows L2
/-! ### a def of the top, with its facts -/
structure Df (K : PySem.W.Frag) (mg : Str → Option Value) (x : Str) (st : Stmt) (ps : List Str) where
  f : Addr
  fd : FuncData
  F : Fun K x x st f fd
  b : Binds K fd ps []
  g : mg x = some (.ref f)
def df_mk {K : PySem.W.Frag} {mg : Str → Option Value} {x : Str} {st : Stmt} {ps : List Str} {h : Heap} (X : K.In h) (G : h.Ns mainGlobals mg) {f : Addr} {oc : Value} {od an : Option Addr} {osl : Array (Option Value)} {kV doc pm cdv ct : Value}
    (a : PySem.W.nsIn K mainGlobals x = some (some (.ref f))) (l : K.lookup f = some ⟨oc, od, .func (PySem.W.fnOf x x (defArgs st) (defBody st) (defScope st) .none kV doc pm an cdv ct), osl⟩)
    (c : PySem.W.codeIn K cdv x = true) (k : PySem.W.keepIn K (.ref f) = true)
    (hb : ∀ (kV doc pm : Value) (an : Option Addr) (cdv ct : Value) (us : List Value), us.length = ps.length → bindArgs (PySem.W.fnOf x x (defArgs st) (defBody st) (defScope st) .none kV doc pm an cdv ct) ⟨us, []⟩ = pure (ps.zip us)) : Df K mg x st ps :=
  ⟨f, _, fun_mk l c k, (fun_mk l c k).binds hb, PySem.W.mg_of X G a⟩
/-! ### calls by keywords alone -/
theorem vals_getD : ∀ {zs : List V} {ws : List Value}, Vals zs ws → ∀ i : Nat, RelV (zs.getD i .non) (ws.getD i .none)
  | _, _, .nil, i => rfl
  | _, _, .cons r t, 0 => r
  | _, _, .cons r t, i + 1 => by simpa using vals_getD t i
section
variable {X : Cx} {CX : CXT} {k n : Nat} {f C : Addr} {fd : FuncData} {ps ks : List Str} {sp : Sp} {E : XK} {x : Str} {p pos : Pos} {kws : List Keyword} {t tk : TA} {g : List Value → List Value → List Value} {gV : List V → List V → List V}
/-- f(k = v, ..) -/
theorem pe_callN0 (F : FnOk X.prog X.w X.K X.mg X.base CX k f fd ps sp) (hr : Room k X.A) (hg : Gl X x) (hm : X.mg x = some (.ref f)) (hk : PySem.W.keepIn X.K (.ref f) = true) (hb : KBn X.K fd ps 0 ks g gV) (hx : Passes CX X E) (hkw : PK X kws tk)
    (hall : (backToKw pos (keywordEach kws X.env)).all (·.1.isSome) = true := by rfl) (hks : (backToKw pos (keywordEach kws X.env)).filterMap (·.1) = ks := by rfl) (hdb : (x == ("__debug__" : Str)) = false := by decide)
    (hpl : ((backTo pos (starEach [] X.env)).any (·.1) || (backToKw pos (keywordEach kws X.env)).any (·.1.isNone)) = false := by rfl) :
    PE X (.Call (.Name x p) [] kws pos) (tCallN 0 ks.length sp gV E tNil tk) := by
  refine ⟨fun pins s σ H Q I h => ?_⟩
  refine wpAny_Call_Name_kw (ld_glob I hg hm ?_ hdb)
  refine PySem.W.callWith_KW0 (h₀ := X.base) I.ok.mod.kin hk hall ?_ hpl
  refine thn (hkw.run pos pins s σ H _ I h) fun ws s2 ⟨zs, H2, I2, rz, l1, l2, q2⟩ => ⟨I2.kIn, ?_⟩
  rw [hks]
  exact run_fnN (us := []) (vs := []) F hr hb hx I2 .nil rz rfl l2 q2
end
/-! ### heaps -/
/-- all that was tracked but at a is as it was -/
def But (a : Addr) (H H' : Hp) : Prop := ∀ b o, b ≠ a → H b = some o → H' b = some o
theorem But.app {a b : Addr} {H H' : Hp} {o : HO} (s : But a H H') (n : b ≠ a) (h : H b = some o) : H' b = some o := s _ _ n h
theorem But.refl {a : Addr} {H : Hp} : But a H H := fun _ _ _ h => h
theorem But.trans {a : Addr} {H H1 H2 : Hp} (s : But a H H1) (t : But a H1 H2) : But a H H2 := fun b o n h => t b o n (s b o n h)
theorem But.upd {a : Addr} {H H1 : Hp} {o : HO} (s : But a H H1) : But a H (upd H1 a o) := fun b u n h => by
  rw [upd_ne n]
  exact s b u n h
theorem But.new {a p : Addr} {H H1 : Hp} {o : HO} (s : But a H H1) (h : H1 p = none) : But a H (L2.upd H1 p o) := fun b u n e => by
  have e1 := s b u n e
  rw [upd_ne (ne_of_none e1 h)]
  exact e1
theorem Same.but {a : Addr} {H H1 : Hp} (s : Same H H1) : But a H H1 := fun b u n h => s b u h
theorem Same.app {b : Addr} {H H' : Hp} {o : HO} (s : Same H H') (h : H b = some o) : H' b = some o := s _ _ h
theorem Same.new {H H1 : Hp} {p : Addr} {o : HO} (s : Same H H1) (h : H1 p = none) : Same H (upd H1 p o) := fun b u e => by
  have e1 := s b u e
  rw [upd_ne (ne_of_none e1 h)]
  exact e1
theorem Same.mut {H H1 : Hp} {p : Addr} {o : HO} (s : Same H H1) (h : H p = none) : Same H (upd H1 p o) := fun b u e => by
  rw [upd_ne (ne_of_none e h)]
  exact s b u e
theorem But.seq {K : PySem.W.Frag} {H H' : Hp} {a b : Addr} {xs : List V} (e : But a H H') (n : b ≠ a) (h : SqL K H b xs) : SqL K H' b xs := by
  rcases h with (h | ⟨o, h⟩) | h
  · exact .inl (.inl (e _ _ n h))
  · exact .inl (.inr ⟨o, e _ _ n h⟩)
  · exact .inr h
theorem upd_keep {H : Hp} {a p : Addr} {o u : HO} (n : H p = none) (h : H a = some o) : upd H p u a = some o := (upd_ne (ne_of_none h n)).trans h
theorem Same.upd0 {H : Hp} {p : Addr} {o : HO} (n : H p = none) : Same H (upd H p o) := fun b u e => upd_keep n e
theorem sqL {K : PySem.W.Frag} {H : Hp} {a : Addr} {xs : List V} (h : H a = some (.lst xs)) : SqL K H a xs := .inl (.inl h)
theorem sqT {K : PySem.W.Frag} {H : Hp} {a : Addr} {xs : List V} (h : H a = some (.tup xs)) : SqT K H a xs := .inl (.inl h)
/-! ### new and changed objects, the heap behind them by a name -/
def New (H : Hp) (o : HO) (Q : VK) : Prop := ∀ p H', H p = none → Same H H' → H' p = some o → Q (.ref p) H'
theorem New.go {H : Hp} {o : HO} {Q : VK} (h : New H o Q) : ∀ p, H p = none → Q (.ref p) (upd H p o) := fun p n => h p _ n (Same.upd0 n) upd_same
/-- what stands at l becomes o -/
def Set1 (H : Hp) (l : Addr) (o : HO) (q : Hp → Prop) : Prop := ∀ H', But l H H' → H' l = some o → q H'
theorem Set1.go {H : Hp} {l : Addr} {o : HO} {q : Hp → Prop} (h : Set1 H l o q) : q (upd H l o) := h _ But.refl.upd upd_same
theorem pe_imp {X : Cx} {e : Expr} {t t' : TE} (h : PE X e t) (i : ∀ σ H Q, t' σ H Q → t σ H Q) : PE X e t' := ⟨fun pins s σ H Q I h' => h.run pins s σ H Q I (i _ _ _ h')⟩
theorem opR_imp {X : Cx} {f : Value → Value → Sem Value} {r r' : R2} (h : OpR X f r) (i : ∀ x y H Q, r' x y H Q → r x y H Q) : OpR X f r' := fun pins s σ H x y v u Q I rx ry q => h pins s σ H x y v u Q I rx ry (i _ _ _ _ q)
theorem callR_imp {X : Cx} {f : Value} {r r' : List V → Hp → VK → Prop} (h : CallR X f r) (i : ∀ xs H Q, r' xs H Q → r xs H Q) : CallR X f r' := fun pins s σ H xs us Q I rx q => h pins s σ H xs us Q I rx (i _ _ _ q)
theorem slR_imp {X : Cx} {r r' : V → Option Int → Option Int → Hp → VK → Prop} (h : SlR X r) (i : ∀ x lo hi H Q, r' x lo hi H Q → r x lo hi H Q) : SlR X r' := fun pins s σ H x v vl vu lo hi sl Q I rx a b c q => h pins s σ H x v vl vu lo hi sl Q I rx a b c (i _ _ _ _ _ q)
theorem mtM_imp {X : Cx} {id : String} {r r' : V → List V → Hp → VK → Prop} (h : MtM X id r) (i : ∀ x xs H Q, r' x xs H Q → r x xs H Q) : MtM X id r' := fun pins s σ H x xs v us Q I rx rv q => h pins s σ H x xs v us Q I rx rv (i _ _ _ _ q)
theorem pSet_imp {X : Cx} {r r' : TSet} (h : PSet X r) (i : ∀ x y z H Q, r' x y z H Q → r x y z H Q) : PSet X r' := fun pins s σ H o i' v ov iv u Q I a b c q => h pins s σ H o i' v ov iv u Q I a b c (i _ _ _ _ _ q)
section
variable {X : Cx} {es : List Expr} {t : TA} {pos : Pos}
/-- a tuple, a list -/
def tTupA (t : TA) : TE := fun σ H Q => t σ H fun xs H1 => xs.length ≤ sizeLine ∧ New H1 (.tup xs) Q
def tLstA (t : TA) : TE := fun σ H Q => t σ H fun xs H1 => xs.length ≤ sizeLine ∧ New H1 (.lst xs) Q
theorem pe_tupA {x1} (h : PA X es t) : PE X (.Tuple es x1 pos) (tTupA t) := by
  refine ⟨fun pins s σ H Q I hq => ?_⟩
  refine wpAny_Tuple_spliced (thn (h.run pos pins s σ H _ I hq) fun us s1 ⟨xs, H1, I1, r, z, q⟩ => ⟨by rw [← r.length]; exact z, ?_⟩)
  have hf : H1 s1.heap.objs.size = none := I1.hok.fresh (Nat.le_refl _)
  refine ⟨.ref s1.heap.objs.size, upd H1 s1.heap.objs.size (.tup xs), I1.laid (t' := s1.toks) (fun b u e => Heap.get?_push_of_some _ e) (Nat.le_refl _) ?_, rfl, q.go _ hf⟩
  exact ⟨z, us, r, ⟨_, Heap.get?_push_size _ rfl, rfl, _, rfl⟩⟩
theorem pe_lstA (h : PA X es t) : PE X (.List es pos) (tLstA t) := by
  refine ⟨fun pins s σ H Q I hq => ?_⟩
  refine wpAny_List_spliced (thn (h.run pos pins s σ H _ I hq) fun us s1 ⟨xs, H1, I1, r, z, q⟩ => ⟨by rw [← r.length]; exact z, ?_⟩)
  have hf : H1 s1.heap.objs.size = none := I1.hok.fresh (Nat.le_refl _)
  refine ⟨.ref s1.heap.objs.size, upd H1 s1.heap.objs.size (.lst xs), I1.laid (t' := s1.toks) (fun b u e => Heap.get?_push_of_some _ e) (Nat.le_refl _) ?_, rfl, q.go _ hf⟩
  exact ⟨z, us, 0, r, Heap.get?_push_size _ rfl⟩
def tDNewA : TE := fun _ H Q => New H (.dK []) Q
theorem pe_dnewA : PE X (.Dict [] [] pos) tDNewA := pe_imp pe_dnewK fun _ _ _ h => h.go
/-- list + list, list * n -/
def rCatA (K : PySem.W.Frag) : R2 := fun x y H Q => ∃ l b xs zs, x = .ref l ∧ y = .ref b ∧ H l = some (.lst xs) ∧ H b = some (.lst zs) ∧ xs.length + zs.length ≤ sizeLine ∧ New H (.lst (xs ++ zs)) Q
theorem op_catA : OpR X (binaryOp .Add) (rCatA X.K) := opR_imp op_cat fun _ _ _ _ ⟨l, b, xs, zs, e1, e2, h1, h2, z, q⟩ => ⟨l, b, xs, zs, e1, e2, h1, h2, z, q.go⟩
def rRepA : R2 := fun x y H Q => ∃ l k xs, x = .ref l ∧ y = .int k ∧ H l = some (.lst xs) ∧ -(2 ^ 63) ≤ k ∧ k < 2 ^ 63 ∧ xs.length * k.toNat ≤ sizeLine ∧ New H (.lst (List.replicate k.toNat xs).flatten) Q
theorem op_repA : OpR X (binaryOp .Mult) rRepA := opR_imp op_rep fun _ _ _ _ ⟨l, k, xs, e1, e2, h1, h2, h3, z, q⟩ => ⟨l, k, xs, e1, e2, h1, h2, h3, z, q.go⟩
def rSlA (K : PySem.W.Frag) : V → Option Int → Option Int → Hp → VK → Prop := fun x lo hi H Q => ∃ a xs, x = .ref a ∧ SqL K H a xs ∧ New H (.lst (cutV xs lo hi)) Q
theorem sl_listA : SlR X (rSlA X.K) := slR_imp sl_list fun _ _ _ _ _ ⟨a, xs, e, h1, q⟩ => ⟨a, xs, e, h1, q.go⟩
def rListA (K : PySem.W.Frag) : List V → Hp → VK → Prop := fun xs H Q => ∃ p ys, xs = [.ref p] ∧ (SqL K H p ys ∨ SqT K H p ys) ∧ New H (.lst ys) Q
theorem call_listA : CallR X (.type "list") (rListA X.K) := callR_imp call_list_of fun _ _ _ ⟨p, ys, e, h, q⟩ => ⟨p, ys, e, h, q.go⟩
/-- tuple(a list) -/
def rTupLA (K : PySem.W.Frag) : List V → Hp → VK → Prop := fun xs H Q => ∃ p ys, xs = [.ref p] ∧ SqL K H p ys ∧ New H (.tup ys) Q
theorem call_tupLA : CallR X (.type "tuple") (rTupLA X.K) := callR_imp call_tuple_of fun _ _ _ ⟨p, ys, e, h, q⟩ => ⟨p, ys, e, .inl ⟨h, q.go⟩⟩
def rSetA : V → V → V → Hp → (Hp → Prop) → Prop := fun o i v H Q => ∃ p xs k j, o = .ref p ∧ i = .int k ∧ H p = some (.lst xs) ∧ ixN xs.length k = some j ∧ Set1 H p (.lst (xs.set j v)) Q
theorem set_listA : PSet X rSetA := pSet_imp set_list fun _ _ _ _ _ ⟨p, xs, k, j, e1, e2, h1, h2, q⟩ => ⟨p, xs, k, j, e1, e2, h1, h2, q.go⟩
def rAppendA : V → List V → Hp → VK → Prop := fun x vs H Q => ∃ l xs y, x = .ref l ∧ vs = [y] ∧ H l = some (.lst xs) ∧ xs.length < sizeLine ∧ Set1 H l (.lst (xs ++ [y])) (Q .non)
def rClearA : V → List V → Hp → VK → Prop := fun x vs H Q => ∃ l xs, x = .ref l ∧ vs = [] ∧ H l = some (.lst xs) ∧ Set1 H l (.lst []) (Q .non)
theorem mt_clearA : MtM X "list.clear" rClearA := mtM_imp mt_clear fun _ _ _ _ ⟨l, xs, e1, e2, h1, q⟩ => ⟨l, xs, e1, e2, h1, q.go⟩
theorem mt_appendA : MtM X "list.append" rAppendA := mtM_imp mt_append fun _ _ _ _ ⟨l, xs, y, e1, e2, h1, h2, q⟩ => ⟨l, xs, y, e1, e2, h1, h2, q.go⟩
end
theorem cutV_mem {xs : List V} {lo hi : Option Int} {x : V} (h : x ∈ cutV xs lo hi) : x ∈ xs := List.mem_of_mem_drop (List.mem_of_mem_take h)
theorem int_of_map {ns : List Int} {i : Nat} {y : V} (h : (ns.map V.int)[i]? = some y) : ∃ z, ns[i]? = some z ∧ y = .int z := by
  rw [List.getElem?_map] at h
  cases e : ns[i]? with
  | none => rw [e] at h; cases h
  | some z => rw [e] at h; exact ⟨z, rfl, (Option.some.inj h).symm⟩
/-- the law's numbers: the first one (0 without), and some more -/
theorem cells_ints {c : Int} {ns : List Int} {lo hi : Option Int} {i : Nat} {y : V} (h : ([V.int c] ++ cutV (ns.map V.int) lo hi)[i]? = some y) : ∃ z, y = .int z := by
  have m := List.mem_of_getElem? h
  rcases List.mem_append.mp m with m | m
  · exact ⟨c, by simpa using m⟩
  · have m2 := cutV_mem m
    obtain ⟨z, _, e⟩ := List.mem_map.mp m2
    exact ⟨z, e.symm⟩
theorem cells_len {ns : List Int} {lo hi : Option Int} (h : ns.length ≤ 63) : ([V.int 0] : List V).length + (cutV (ns.map V.int) lo hi).length ≤ sizeLine := by
  have h1 := cutV_length (ns.map V.int) lo hi
  rw [List.length_map] at h1
  exact Nat.le_trans (by show 1 + _ ≤ 100; omega) (by decide)
/-! ### kinds -/
def isI : V → Bool
  | .int _ => true
  | _ => false
def isN : V → Bool
  | .int i => decide (0 ≤ i)
  | _ => false
def isB : V → Bool
  | .bl _ => true
  | _ => false
/-- a value of one of the plain kinds -/
inductive Ty7 (H : Hp) : V → String → Prop where
  | non : Ty7 H .non "NoneType"
  | bl (b : Bool) : Ty7 H (.bl b) "bool"
  | int (i : Int) : Ty7 H (.int i) "int"
  | str (x : Str) : Ty7 H (.str x) "str"
  | lst {a : Addr} {xs : List V} (h : H a = some (.lst xs)) : Ty7 H (.ref a) "list"
  | tup {a : Addr} {xs : List V} (h : H a = some (.tup xs)) : Ty7 H (.ref a) "tuple"
  | dK {a : Addr} {xs : List (Key × V)} (h : H a = some (.dK xs)) : Ty7 H (.ref a) "dict"
section
variable {K : PySem.W.Frag} {H H' : Hp} {x : V} {t : String}
theorem Ty7.tx (h : Ty7 H x t) : TyX K H x (.type t) := by
  cases h with
  | non => exact .base .non
  | bl b => exact .base (.bl b)
  | int i => exact .base (.int i)
  | str i => exact .base (.str i)
  | lst h => exact .base (.lst h)
  | tup h => exact .base (.tup h)
  | dK h => exact .base (.dK h)
theorem Ty7.ki (h : Ty7 H x t) : kitB t "int" = some (isI x || isB x) := by
  cases h <;> (simp only [isI, isB]; decide +kernel)
theorem Ty7.kb (h : Ty7 H x t) : kitB t "bool" = some (isB x) := by
  cases h <;> (simp only [isB]; decide +kernel)
theorem Ty7.kl (h : Ty7 H x t) : kitB t "list" = some (decide (t = "list")) := by
  cases h <;> decide +kernel
theorem Ty7.kt (h : Ty7 H x t) : kitB t "tuple" = some (decide (t = "tuple")) := by
  cases h <;> decide +kernel
theorem Ty7.ks (h : Ty7 H x t) : kitB t "str" = some (decide (t = "str")) := by
  cases h <;> decide +kernel
theorem Ty7.mono (h : Ty7 H x t) (s : Same H H') : Ty7 H' x t := by
  cases h with
  | non => exact .non
  | bl b => exact .bl b
  | int i => exact .int i
  | str i => exact .str i
  | lst h => exact .lst (s _ _ h)
  | tup h => exact .tup (s _ _ h)
  | dK h => exact .dK (s _ _ h)
end
theorem isI_of : ∀ {x : V}, isI x = true → ∃ i, x = .int i
  | .int i, _ => ⟨i, rfl⟩
theorem isI_bool {x : V} (h : (isI x || isB x) = true) : (!isB x) = isI x := by
  cases x <;> simp_all [isI, isB]
theorem isI_no {x : V} (h : ¬ (isI x || isB x) = true) : false = isI x := by
  cases x <;> simp_all [isI, isB]
def heldM (n l : Int) (m : Option Int) : Int := max (match m with | some m => min n m | none => n) l
def optI : Option Int → V
  | some i => .int i
  | none => .non
/-- the law's source of draws: three whole numbers -/
def src (s : Int × Int × Int) : HO := .lst [.int s.1, .int s.2.1, .int s.2.2]
/-! ### draws: only the source at a changes -/
def Src (H : Hp) (a : Addr) : Prop := ∃ s, H a = some (src s)
structure Dr (a : Addr) (H H' : Hp) : Prop where
  s : Src H' a
  b : But a H H'
theorem Dr.app {a b : Addr} {H H' : Hp} {o : HO} (d : Dr a H H') (n : b ≠ a) (h : H b = some o) : H' b = some o := d.b _ _ n h
theorem Dr.trans {a : Addr} {H H1 H2 : Hp} (d : Dr a H H1) (e : Dr a H1 H2) : Dr a H H2 := ⟨e.s, d.b.trans e.b⟩
theorem Dr.same {a : Addr} {H H1 H2 : Hp} (d : Dr a H H1) (e : Same H1 H2) : Dr a H H2 := ⟨let ⟨s, h⟩ := d.s; ⟨s, e _ _ h⟩, d.b.trans (Same.but e)⟩
theorem Dr.of {a : Addr} {H H1 : Hp} (h : Src H a) (e : Same H H1) : Dr a H H1 := ⟨let ⟨s, h⟩ := h; ⟨s, e _ _ h⟩, Same.but e⟩
theorem Dr.refl {a : Addr} {H : Hp} (h : Src H a) : Dr a H H := ⟨h, But.refl⟩
/-- a list that was not there may change -/
theorem Dr.mut {a l : Addr} {H H1 H2 : Hp} (d : Dr a H H1) (e : But l H1 H2) (n : H l = none) (na : a ≠ l) : Dr a H H2 :=
  ⟨let ⟨s, h⟩ := d.s; ⟨s, e _ _ na h⟩, fun b o nb h => e _ _ (ne_of_none h n) (d.b _ _ nb h)⟩
theorem Same.mut' {l : Addr} {H H1 H2 : Hp} (d : Same H H1) (e : But l H1 H2) (n : H l = none) : Same H H2 := fun b o h => e _ _ (ne_of_none h n) (d _ _ h)
theorem Src.same {a : Addr} {H H1 : Hp} (h : Src H a) (e : Same H H1) : Src H1 a := let ⟨s, h⟩ := h; ⟨s, e _ _ h⟩
theorem Src.but {a l : Addr} {H H1 : Hp} (h : Src H a) (e : But l H H1) (n : a ≠ l) : Src H1 a := let ⟨s, h⟩ := h; ⟨s, e _ _ n h⟩
theorem Src.ne {a p : Addr} {H : Hp} (h : Src H a) (n : H p = none) : p ≠ a := let ⟨_, h⟩ := h; (ne_of_none h n).symm
theorem Src.of {a : Addr} {H : Hp} {s : Int × Int × Int} (h : H a = some (src s)) : Src H a := ⟨s, h⟩
theorem Dr.free {a l : Addr} {H H' : Hp} (d : Dr a H H') (h : H' l = none) (n : l ≠ a) : H l = none := by
  cases q : H l with
  | none => rfl
  | some o => rw [d.b _ _ n q] at h; cases h
theorem Dr.seq {K : PySem.W.Frag} {H H' : Hp} {a b : Addr} {xs : List V} (e : Dr a H H') (n : b ≠ a) (h : SqL K H b xs) : SqL K H' b xs := e.b.seq n h
/-! ### comprehensions: P by the turn, the items so far, the heap; the item's end by a continuation of any kind -/
section
variable {K : PySem.W.Frag} {a b : Addr} {xs zs : List V} {g : TG} {tt : TT} {te : TE} {vs : List Nat} {σ : L2.St} {H1 : Hp} {D : Addr} {Qd : Hp → Prop}
/-- what an item's turn is to end in -/
abbrev LcT (g : TG) (tt : TT) (te : TE) (vs : List Nat) (σ : L2.St) (x : V) (H : Hp) (Kt : V → Hp → Prop) (Kf : Hp → Prop) : Prop :=
  g x (wipe σ vs) H fun σ2 H2 => wipe σ2 vs = wipe σ vs ∧ tt σ2 H2 fun b H3 => if b = true then te σ2 H3 Kt else Kf H3
/-- the ends of a turn -/
structure LcK (D : Addr) (P : List V → Hp → Prop) (acc : List V) (Kt : V → Hp → Prop) (Kf : Hp → Prop) : Prop where
  yes : ∀ y H4, H4 D = some (.lst acc) → acc.length < sizeLine → (∀ H5, But D H4 H5 → H5 D = some (.lst (acc ++ [y])) → P (acc ++ [y]) H5) → Kt y H4
  no : ∀ H3, H3 D = some (.lst acc) → P acc H3 → Kf H3
theorem lcL (P : Nat → List V → Hp → Prop) (h0 : ∀ H', Same H1 H' → H' D = some (.lst []) → P 0 [] H') (hD : H1 D = none) (hl : ∀ i acc H, P i acc H → SqL K H a xs)
    (hs : ∀ i x acc H Kt Kf, xs[i]? = some x → P i acc H → H D = some (.lst acc) → LcK D (P (i + 1)) acc Kt Kf → LcT g tt te vs σ x H Kt Kf)
    (hd : ∀ acc H, P xs.length acc H → H D = some (.lst acc) → Qd H) :
    ∃ W : Nat → Nat → Hp → Prop, (∃ m, W 0 m (upd H1 D (.lst []))) ∧ ∀ i m H, W i m H →
      ((Itl K a).stop i H ∧ Qd H) ∨ ((Itl K a).go i H ∧ ∃ Nx : Hp → Prop, (∀ H', Nx H' → ∃ m', m' < m ∧ W (i + 1) m' H') ∧ ∀ x H', (Itl K a).yld i H x H' → g x (wipe σ vs) H' fun σ2 H2 => wipe σ2 vs = wipe σ vs ∧ tt σ2 H2 fun b H3 =>
        if b = true then te σ2 H3 fun y H4 => ∃ acc, H4 D = some (.lst acc) ∧ acc.length < sizeLine ∧ Nx (upd H4 D (.lst (acc ++ [y]))) else Nx H3) :=
  lc_list (xs := xs) (fun i H => ∃ acc, H D = some (.lst acc) ∧ P i acc H) ⟨[], upd_same, h0 _ (Same.upd0 hD) upd_same⟩ (fun i H _ ⟨acc, _, p⟩ => hl i acc H p)
    (fun i x H hx ⟨acc, e, p⟩ => hs i x acc H _ _ hx p e ⟨fun y H4 e4 z k => ⟨acc, e4, z, acc ++ [y], upd_same, k _ But.refl.upd upd_same⟩, fun H3 e3 k => ⟨acc, e3, k⟩⟩) (fun H ⟨acc, e, p⟩ => hd acc H p e)
theorem lcT (P : Nat → List V → Hp → Prop) (h0 : ∀ H', Same H1 H' → H' D = some (.lst []) → P 0 [] H') (hD : H1 D = none) (hl : ∀ i acc H, P i acc H → SqT K H a xs)
    (hs : ∀ i x acc H Kt Kf, xs[i]? = some x → P i acc H → H D = some (.lst acc) → LcK D (P (i + 1)) acc Kt Kf → LcT g tt te vs σ x H Kt Kf)
    (hd : ∀ acc H, P xs.length acc H → H D = some (.lst acc) → Qd H) :
    ∃ W : Nat → Nat → Hp → Prop, (∃ m, W 0 m (upd H1 D (.lst []))) ∧ ∀ i m H, W i m H →
      ((Itt K a).stop i H ∧ Qd H) ∨ ((Itt K a).go i H ∧ ∃ Nx : Hp → Prop, (∀ H', Nx H' → ∃ m', m' < m ∧ W (i + 1) m' H') ∧ ∀ x H', (Itt K a).yld i H x H' → g x (wipe σ vs) H' fun σ2 H2 => wipe σ2 vs = wipe σ vs ∧ tt σ2 H2 fun b H3 =>
        if b = true then te σ2 H3 fun y H4 => ∃ acc, H4 D = some (.lst acc) ∧ acc.length < sizeLine ∧ Nx (upd H4 D (.lst (acc ++ [y]))) else Nx H3) :=
  lc_tup (xs := xs) (fun i H => ∃ acc, H D = some (.lst acc) ∧ P i acc H) ⟨[], upd_same, h0 _ (Same.upd0 hD) upd_same⟩ (fun i H _ ⟨acc, _, p⟩ => hl i acc H p)
    (fun i x H hx ⟨acc, e, p⟩ => hs i x acc H _ _ hx p e ⟨fun y H4 e4 z k => ⟨acc, e4, z, acc ++ [y], upd_same, k _ But.refl.upd upd_same⟩, fun H3 e3 k => ⟨acc, e3, k⟩⟩) (fun H ⟨acc, e, p⟩ => hd acc H p e)
theorem lcR {lo : Int} {n : Nat} (P : Nat → List V → Hp → Prop) (h0 : ∀ H', Same H1 H' → H' D = some (.lst []) → P 0 [] H') (hD : H1 D = none)
    (hs : ∀ i acc H Kt Kf, i < n → P i acc H → H D = some (.lst acc) → LcK D (P (i + 1)) acc Kt Kf → LcT g tt te vs σ (.int (lo + i)) H Kt Kf)
    (hd : ∀ acc H, P n acc H → H D = some (.lst acc) → Qd H) :
    ∃ W : Nat → Nat → Hp → Prop, (∃ m, W 0 m (upd H1 D (.lst []))) ∧ ∀ i m H, W i m H →
      ((Itr lo n).stop i H ∧ Qd H) ∨ ((Itr lo n).go i H ∧ ∃ Nx : Hp → Prop, (∀ H', Nx H' → ∃ m', m' < m ∧ W (i + 1) m' H') ∧ ∀ x H', (Itr lo n).yld i H x H' → g x (wipe σ vs) H' fun σ2 H2 => wipe σ2 vs = wipe σ vs ∧ tt σ2 H2 fun b H3 =>
        if b = true then te σ2 H3 fun y H4 => ∃ acc, H4 D = some (.lst acc) ∧ acc.length < sizeLine ∧ Nx (upd H4 D (.lst (acc ++ [y]))) else Nx H3) :=
  lc_range (fun i H => ∃ acc, H D = some (.lst acc) ∧ P i acc H) ⟨[], upd_same, h0 _ (Same.upd0 hD) upd_same⟩
    (fun i H hx ⟨acc, e, p⟩ => hs i acc H _ _ hx p e ⟨fun y H4 e4 z k => ⟨acc, e4, z, acc ++ [y], upd_same, k _ But.refl.upd upd_same⟩, fun H3 e3 k => ⟨acc, e3, k⟩⟩) (fun H ⟨acc, e, p⟩ => hd acc H p e)
/-- over enumerate: the pair is a new tuple -/
theorem lcE (P : Nat → List V → Hp → Prop) (h0 : ∀ H', Same H1 H' → H' D = some (.lst []) → P 0 [] H') (hD : H1 D = none) (hl : ∀ i acc H, P i acc H → SqL K H a xs)
    (hs : ∀ i x acc H T H' Kt Kf, xs[i]? = some x → P i acc H → H D = some (.lst acc) → H T = none → Same H H' → H' T = some (.tup [.int (i : Nat), x]) → LcK D (P (i + 1)) acc Kt Kf → LcT g tt te vs σ (.ref T) H' Kt Kf)
    (hd : ∀ acc H, P xs.length acc H → H D = some (.lst acc) → Qd H) :
    ∃ W : Nat → Nat → Hp → Prop, (∃ m, W 0 m (upd H1 D (.lst []))) ∧ ∀ i m H, W i m H →
      ((Ite K a).stop i H ∧ Qd H) ∨ ((Ite K a).go i H ∧ ∃ Nx : Hp → Prop, (∀ H', Nx H' → ∃ m', m' < m ∧ W (i + 1) m' H') ∧ ∀ x H', (Ite K a).yld i H x H' → g x (wipe σ vs) H' fun σ2 H2 => wipe σ2 vs = wipe σ vs ∧ tt σ2 H2 fun b H3 =>
        if b = true then te σ2 H3 fun y H4 => ∃ acc, H4 D = some (.lst acc) ∧ acc.length < sizeLine ∧ Nx (upd H4 D (.lst (acc ++ [y]))) else Nx H3) := by
  refine ⟨fun i m H => m = xs.length - i ∧ i ≤ xs.length ∧ ∃ acc, H D = some (.lst acc) ∧ P i acc H, ⟨xs.length, rfl, Nat.zero_le _, [], upd_same, h0 _ (Same.upd0 hD) upd_same⟩, ?_⟩
  rintro i m H ⟨rfl, hi, acc, e, p⟩
  have q := hl i acc H p
  by_cases hlt : i < xs.length
  · refine .inr ⟨⟨xs, xs[i], q, by simp [hlt]⟩, fun H => ∃ acc, H D = some (.lst acc) ∧ P (i + 1) acc H, fun H' p' => ⟨xs.length - (i + 1), by omega, rfl, hlt, p'⟩, fun v H' y => ?_⟩
    obtain ⟨T, x, rfl, nT, rfl, hx⟩ := y
    exact hs i x acc H T _ _ _ (hx xs q) p e nT (Same.upd0 nT) upd_same ⟨fun y H4 e4 z k => ⟨acc, e4, z, acc ++ [y], upd_same, k _ But.refl.upd upd_same⟩, fun H3 e3 k => ⟨acc, e3, k⟩⟩
  · have ei : i = xs.length := by omega
    subst ei
    exact .inl ⟨⟨xs, q, Nat.le_refl _⟩, hd acc H p e⟩
/-- over zip of two lists of one length -/
theorem lcZ (hlen : xs.length = zs.length) (P : Nat → List V → Hp → Prop) (h0 : ∀ H', Same H1 H' → H' D = some (.lst []) → P 0 [] H') (hD : H1 D = none) (hl : ∀ i acc H, P i acc H → SqL K H a xs ∧ SqL K H b zs)
    (hs : ∀ i x z acc H T H' Kt Kf, xs[i]? = some x → zs[i]? = some z → P i acc H → H D = some (.lst acc) → H T = none → Same H H' → H' T = some (.tup [x, z]) → LcK D (P (i + 1)) acc Kt Kf → LcT g tt te vs σ (.ref T) H' Kt Kf)
    (hd : ∀ acc H, P xs.length acc H → H D = some (.lst acc) → Qd H) :
    ∃ W : Nat → Nat → Hp → Prop, (∃ m, W 0 m (upd H1 D (.lst []))) ∧ ∀ i m H, W i m H →
      ((Itz K a b).stop i H ∧ Qd H) ∨ ((Itz K a b).go i H ∧ ∃ Nx : Hp → Prop, (∀ H', Nx H' → ∃ m', m' < m ∧ W (i + 1) m' H') ∧ ∀ x H', (Itz K a b).yld i H x H' → g x (wipe σ vs) H' fun σ2 H2 => wipe σ2 vs = wipe σ vs ∧ tt σ2 H2 fun b H3 =>
        if b = true then te σ2 H3 fun y H4 => ∃ acc, H4 D = some (.lst acc) ∧ acc.length < sizeLine ∧ Nx (upd H4 D (.lst (acc ++ [y]))) else Nx H3) := by
  refine ⟨fun i m H => m = xs.length - i ∧ i ≤ xs.length ∧ ∃ acc, H D = some (.lst acc) ∧ P i acc H, ⟨xs.length, rfl, Nat.zero_le _, [], upd_same, h0 _ (Same.upd0 hD) upd_same⟩, ?_⟩
  rintro i m H ⟨rfl, hi, acc, e, p⟩
  obtain ⟨q1, q2⟩ := hl i acc H p
  by_cases hlt : i < xs.length
  · have hlt2 : i < zs.length := by omega
    refine .inr ⟨⟨xs, zs, xs[i], zs[i], q1, q2, by simp [hlt], by simp [hlt2]⟩, fun H => ∃ acc, H D = some (.lst acc) ∧ P (i + 1) acc H, fun H' p' => ⟨xs.length - (i + 1), by omega, rfl, hlt, p'⟩, fun v H' y => ?_⟩
    obtain ⟨T, x, z, rfl, nT, rfl, hx, hz⟩ := y
    exact hs i x z acc H T _ _ _ (hx xs q1) (hz zs q2) p e nT (Same.upd0 nT) upd_same ⟨fun y H4 e4 z k => ⟨acc, e4, z, acc ++ [y], upd_same, k _ But.refl.upd upd_same⟩, fun H3 e3 k => ⟨acc, e3, k⟩⟩
  · have ei : i = xs.length := by omega
    subst ei
    exact .inl ⟨⟨xs, zs, q1, q2, .inl (Nat.le_refl _)⟩, hd acc H p e⟩
/-- items that hang on the item alone (what stands, stands): the list of those that are told -/
def lcYs (n : Nat) (ys : Nat → Option V) : List V := (List.range n).filterMap ys
theorem lcYs_succ (n : Nat) (ys : Nat → Option V) : lcYs (n + 1) ys = lcYs n ys ++ (ys n).toList := by
  unfold lcYs
  rw [List.range_succ, List.filterMap_append]
  cases h : ys n with
  | none => simp [h]
  | some y => simp [h]
theorem lcYs_len (n : Nat) (ys : Nat → Option V) : (lcYs n ys).length ≤ n := by
  unfold lcYs
  have := List.length_filterMap_le ys (List.range n)
  rw [List.length_range] at this
  exact this
theorem lcYs_const (n : Nat) (v : V) : lcYs n (fun _ => some v) = List.replicate n v := by
  induction n with
  | zero => rfl
  | succ n ih => rw [lcYs_succ, ih, List.replicate_succ']; rfl
/-- .. one for each item -/
theorem lcYs_map {α : Type} (f : α → V) : ∀ (xs : List α) (ys : Nat → Option V), (∀ i x, xs[i]? = some x → ys i = some (f x)) → lcYs xs.length ys = xs.map f := by
  intro xs ys h
  have key : ∀ n, n ≤ xs.length → lcYs n ys = (xs.take n).map f := by
    intro n
    induction n with
    | zero => intro _; rfl
    | succ n ih =>
      intro hn
      have hx : xs[n]? = some xs[n] := List.getElem?_eq_getElem (by omega)
      rw [lcYs_succ, ih (by omega), h n _ hx, List.take_add_one, hx, List.map_append]
      rfl
  rw [key _ (Nat.le_refl _), List.take_length]
/-- .. of those that a test keeps -/
theorem lcYs_filter {α : Type} (q : α → Bool) (f : α → V) : ∀ (xs : List α) (ys : Nat → Option V), (∀ i x, xs[i]? = some x → ys i = if q x = true then some (f x) else none) → lcYs xs.length ys = (xs.filter q).map f := by
  intro xs ys h
  have key : ∀ n, n ≤ xs.length → lcYs n ys = ((xs.take n).filter q).map f := by
    intro n
    induction n with
    | zero => intro _; rfl
    | succ n ih =>
      intro hn
      have hx : xs[n]? = some xs[n] := List.getElem?_eq_getElem (by omega)
      rw [lcYs_succ, ih (by omega), h n _ hx, List.take_add_one, hx, List.filter_append, List.map_append]
      congr 1
      cases hq : q xs[n] <;> simp [hq]
  rw [key _ (Nat.le_refl _), List.take_length]
/-- the ends of a turn that changes nothing -/
structure LcQ (H : Hp) (r : Option V) (Kt : V → Hp → Prop) (Kf : Hp → Prop) : Prop where
  yes : ∀ y H4, Same H H4 → r = some y → Kt y H4
  no : ∀ H3, Same H H3 → r = none → Kf H3
theorem lcQ_of {P : Nat → List V → Hp → Prop} {ys : Nat → Option V} {i : Nat} {acc : List V} {H H0 : Hp} {Kt : V → Hp → Prop} {Kf : Hp → Prop} (hP : P = fun i acc H => acc = lcYs i ys ∧ Same H1 H) (hD : H1 D = none) (hi : i < 100000)
    (p : P i acc H0) (e : H0 D = some (.lst acc)) (s : Same H0 H) (k : LcK D (P (i + 1)) acc Kt Kf) : LcQ H (ys i) Kt Kf := by
  subst hP
  obtain ⟨rfl, sm⟩ := p
  have hz : (lcYs i ys).length < sizeLine := Nat.lt_of_le_of_lt (lcYs_len i ys) (Nat.lt_of_lt_of_le hi (by decide))
  refine ⟨fun y H4 s4 ey => k.yes y H4 (s4 _ _ (s _ _ e)) hz fun H5 b5 _ => ⟨?_, ?_⟩, fun H3 s3 en => k.no H3 (s3 _ _ (s _ _ e)) ⟨?_, (sm.trans s).trans s3⟩⟩
  · rw [lcYs_succ, ey]; rfl
  · exact Same.mut' ((sm.trans s).trans s4) b5 hD
  · rw [lcYs_succ, en]; simp
theorem lcLq (ys : Nat → Option V) (hD : H1 D = none) (hx : SqL K H1 a xs) (hn : xs.length ≤ 100000)
    (hs : ∀ i x H Kt Kf, xs[i]? = some x → Same H1 H → LcQ H (ys i) Kt Kf → LcT g tt te vs σ x H Kt Kf)
    (hd : ∀ H, Same H1 H → H D = some (.lst (lcYs xs.length ys)) → Qd H) :
    ∃ W : Nat → Nat → Hp → Prop, (∃ m, W 0 m (upd H1 D (.lst []))) ∧ ∀ i m H, W i m H →
      ((Itl K a).stop i H ∧ Qd H) ∨ ((Itl K a).go i H ∧ ∃ Nx : Hp → Prop, (∀ H', Nx H' → ∃ m', m' < m ∧ W (i + 1) m' H') ∧ ∀ x H', (Itl K a).yld i H x H' → g x (wipe σ vs) H' fun σ2 H2 => wipe σ2 vs = wipe σ vs ∧ tt σ2 H2 fun b H3 =>
        if b = true then te σ2 H3 fun y H4 => ∃ acc, H4 D = some (.lst acc) ∧ acc.length < sizeLine ∧ Nx (upd H4 D (.lst (acc ++ [y]))) else Nx H3) :=
  lcL (fun i acc H => acc = lcYs i ys ∧ Same H1 H) (fun H' s _ => ⟨rfl, s⟩) hD (fun i acc H p => p.2.seq hx)
    (fun i x acc H Kt Kf hxi p e k => hs i x H Kt Kf hxi p.2 (lcQ_of rfl hD (by have := (List.getElem?_eq_some_iff.mp hxi).1; omega) p e (Same.refl H) k))
    (fun acc H p e => hd H p.2 (by rw [← p.1]; exact e))
theorem lcTq (ys : Nat → Option V) (hD : H1 D = none) (hx : SqT K H1 a xs) (hn : xs.length ≤ 100000)
    (hs : ∀ i x H Kt Kf, xs[i]? = some x → Same H1 H → LcQ H (ys i) Kt Kf → LcT g tt te vs σ x H Kt Kf)
    (hd : ∀ H, Same H1 H → H D = some (.lst (lcYs xs.length ys)) → Qd H) :
    ∃ W : Nat → Nat → Hp → Prop, (∃ m, W 0 m (upd H1 D (.lst []))) ∧ ∀ i m H, W i m H →
      ((Itt K a).stop i H ∧ Qd H) ∨ ((Itt K a).go i H ∧ ∃ Nx : Hp → Prop, (∀ H', Nx H' → ∃ m', m' < m ∧ W (i + 1) m' H') ∧ ∀ x H', (Itt K a).yld i H x H' → g x (wipe σ vs) H' fun σ2 H2 => wipe σ2 vs = wipe σ vs ∧ tt σ2 H2 fun b H3 =>
        if b = true then te σ2 H3 fun y H4 => ∃ acc, H4 D = some (.lst acc) ∧ acc.length < sizeLine ∧ Nx (upd H4 D (.lst (acc ++ [y]))) else Nx H3) :=
  lcT (fun i acc H => acc = lcYs i ys ∧ Same H1 H) (fun H' s _ => ⟨rfl, s⟩) hD (fun i acc H p => (show SqT K H a xs from by
      rcases hx with (h | ⟨o, h⟩) | h
      · exact .inl (.inl (p.2 _ _ h))
      · exact .inl (.inr ⟨o, p.2 _ _ h⟩)
      · exact .inr h))
    (fun i x acc H Kt Kf hxi p e k => hs i x H Kt Kf hxi p.2 (lcQ_of rfl hD (by have := (List.getElem?_eq_some_iff.mp hxi).1; omega) p e (Same.refl H) k))
    (fun acc H p e => hd H p.2 (by rw [← p.1]; exact e))
theorem lcRq {lo : Int} {n : Nat} (ys : Nat → Option V) (hD : H1 D = none) (hn : n ≤ 100000)
    (hs : ∀ i H Kt Kf, i < n → Same H1 H → LcQ H (ys i) Kt Kf → LcT g tt te vs σ (.int (lo + i)) H Kt Kf)
    (hd : ∀ H, Same H1 H → H D = some (.lst (lcYs n ys)) → Qd H) :
    ∃ W : Nat → Nat → Hp → Prop, (∃ m, W 0 m (upd H1 D (.lst []))) ∧ ∀ i m H, W i m H →
      ((Itr lo n).stop i H ∧ Qd H) ∨ ((Itr lo n).go i H ∧ ∃ Nx : Hp → Prop, (∀ H', Nx H' → ∃ m', m' < m ∧ W (i + 1) m' H') ∧ ∀ x H', (Itr lo n).yld i H x H' → g x (wipe σ vs) H' fun σ2 H2 => wipe σ2 vs = wipe σ vs ∧ tt σ2 H2 fun b H3 =>
        if b = true then te σ2 H3 fun y H4 => ∃ acc, H4 D = some (.lst acc) ∧ acc.length < sizeLine ∧ Nx (upd H4 D (.lst (acc ++ [y]))) else Nx H3) :=
  lcR (fun i acc H => acc = lcYs i ys ∧ Same H1 H) (fun H' s _ => ⟨rfl, s⟩) hD
    (fun i acc H Kt Kf hxi p e k => hs i H Kt Kf hxi p.2 (lcQ_of rfl hD (by omega) p e (Same.refl H) k))
    (fun acc H p e => hd H p.2 (by rw [← p.1]; exact e))
theorem lcEq (ys : Nat → Option V) (hD : H1 D = none) (hx : SqL K H1 a xs) (hn : xs.length ≤ 100000)
    (hs : ∀ i x T H Kt Kf, xs[i]? = some x → Same H1 H → H T = some (.tup [.int (i : Nat), x]) → LcQ H (ys i) Kt Kf → LcT g tt te vs σ (.ref T) H Kt Kf)
    (hd : ∀ H, Same H1 H → H D = some (.lst (lcYs xs.length ys)) → Qd H) :
    ∃ W : Nat → Nat → Hp → Prop, (∃ m, W 0 m (upd H1 D (.lst []))) ∧ ∀ i m H, W i m H →
      ((Ite K a).stop i H ∧ Qd H) ∨ ((Ite K a).go i H ∧ ∃ Nx : Hp → Prop, (∀ H', Nx H' → ∃ m', m' < m ∧ W (i + 1) m' H') ∧ ∀ x H', (Ite K a).yld i H x H' → g x (wipe σ vs) H' fun σ2 H2 => wipe σ2 vs = wipe σ vs ∧ tt σ2 H2 fun b H3 =>
        if b = true then te σ2 H3 fun y H4 => ∃ acc, H4 D = some (.lst acc) ∧ acc.length < sizeLine ∧ Nx (upd H4 D (.lst (acc ++ [y]))) else Nx H3) :=
  lcE (fun i acc H => acc = lcYs i ys ∧ Same H1 H) (fun H' s _ => ⟨rfl, s⟩) hD (fun i acc H p => p.2.seq hx)
    (fun i x acc H T H' Kt Kf hxi p e nT sT gT k => hs i x T H' Kt Kf hxi (p.2.trans sT) gT (lcQ_of rfl hD (by have := (List.getElem?_eq_some_iff.mp hxi).1; omega) p e sT k))
    (fun acc H p e => hd H p.2 (by rw [← p.1]; exact e))
theorem lcZq (ys : Nat → Option V) (hlen : xs.length = zs.length) (hD : H1 D = none) (hx : SqL K H1 a xs) (hz : SqL K H1 b zs) (hn : xs.length ≤ 100000)
    (hs : ∀ i x z T H Kt Kf, xs[i]? = some x → zs[i]? = some z → Same H1 H → H T = some (.tup [x, z]) → LcQ H (ys i) Kt Kf → LcT g tt te vs σ (.ref T) H Kt Kf)
    (hd : ∀ H, Same H1 H → H D = some (.lst (lcYs xs.length ys)) → Qd H) :
    ∃ W : Nat → Nat → Hp → Prop, (∃ m, W 0 m (upd H1 D (.lst []))) ∧ ∀ i m H, W i m H →
      ((Itz K a b).stop i H ∧ Qd H) ∨ ((Itz K a b).go i H ∧ ∃ Nx : Hp → Prop, (∀ H', Nx H' → ∃ m', m' < m ∧ W (i + 1) m' H') ∧ ∀ x H', (Itz K a b).yld i H x H' → g x (wipe σ vs) H' fun σ2 H2 => wipe σ2 vs = wipe σ vs ∧ tt σ2 H2 fun b H3 =>
        if b = true then te σ2 H3 fun y H4 => ∃ acc, H4 D = some (.lst acc) ∧ acc.length < sizeLine ∧ Nx (upd H4 D (.lst (acc ++ [y]))) else Nx H3) :=
  lcZ hlen (fun i acc H => acc = lcYs i ys ∧ Same H1 H) (fun H' s _ => ⟨rfl, s⟩) hD (fun i acc H p => ⟨p.2.seq hx, p.2.seq hz⟩)
    (fun i x z acc H T H' Kt Kf hxi hzi p e nT sT gT k => hs i x z T H' Kt Kf hxi hzi (p.2.trans sT) gT (lcQ_of rfl hD (by have := (List.getElem?_eq_some_iff.mp hxi).1; omega) p e sT k))
    (fun acc H p e => hd H p.2 (by rw [← p.1]; exact e))
end
/-- the items of a dict: it is held from there on (nobody else has it) -/
def iItemsN (td : TE) : TI := fun σ H R => td σ H fun x H1 => ∃ d kvs, x = .ref d ∧ H1 d = some (.dK kvs) ∧ ∀ o H2, But d H1 H2 → H2 d = some (.frz o (.dK kvs)) → R (Iti d o kvs) H2
theorem pi_itemsN {X : Cx} {e : Expr} {td : TE} {apos cpos : Pos} {elts : List Expr} {kk : Nat} {tpos : Pos} (he : PE X e td) (hbase : attributeBase e "items" X.env (eval e X.env) = eval e X.env := by rfl) (hline : (apos.endLine == cpos.line) = true := by rfl) :
    PI X (.Tuple elts kk tpos) (.Call (.Attribute e "items" apos) [] [] cpos) (iItemsN td) := by
  refine ⟨fun pins s σ H R I h => ?_⟩
  refine wpAny_Call_method (T := "dict") (id := "dict.items") hbase rfl hline F.plainAttrs_dict F.slot_dict_items F.type_dict_items (thn (he.run pins s σ H _ I h) fun u s1 ⟨x, H0, I0, rx, d, kvs, ex, hd0, q0⟩ => ?_)
  subst ex
  obtain rfl : u = Value.ref d := rx
  obtain ⟨o, I1⟩ := I0.lock hd0 trivial
  have hd : (upd H0 d (.frz o (.dK kvs))) d = some (.frz o (.dK kvs)) := upd_same
  have q := q0 o _ But.refl.upd hd
  generalize upd H0 d (.frz o (.dK kvs)) = H1 at I1 hd q
  obtain ⟨hs, hgd, hx, es, ep, vs, hdt, hsz, kv, hm⟩ := I1.frzK hd
  have hl : kvs.length = vs.length := Paired.length kv
  refine ⟨hm.dictOf.typeIs, hm.dictOf.mapOf.noDict, ?_⟩
  have I2 : Inv X pins σ H1 { s1 with heap := s1.heap.push { cls := .type "dict_items", data := .fields #[.ref d] } } := I1.kept (t' := s1.toks) fun b ob q => Heap.get?_push_of_some _ q
  have fin : wpAny (model X.prog X.w) X.A (pyIter (.ref s1.heap.objs.size)) (PIE X pins σ (.Tuple elts kk tpos) R) X.xe { s1 with heap := s1.heap.push { cls := .type "dict_items", data := .fields #[.ref d] } } := by
    refine wpAny_pyIter_items (d := d) (knd := mixKind X.prog X.w) ⟨_, Heap.get?_push_size _ rfl, rfl, rfl⟩ (hm.push _) (pi_one (tk := s1.toks) I2 _ (turn_items _ hdt) ⟨.none, .none, ?_⟩ q)
    rw [hl]
    exact Heap.get?_push_size _ rfl
  show wpAny _ _ (callWith cpos (.builtin "dict.items") [.ref d] [] []) _ X.xe s1
  exact method_meetsIn F.slot_dict_items F.entry_dict_items rfl (PySem.evalArgs_none ⟨rfl, hm.dictOf.typeIs, F.args_dict_items_1 _, _, meets_dict_items (mixKind X.prog X.w) d hs, ⟨vs, hm.dictOf⟩, fin⟩)
/-! ### loops over enumerate, zip, the items of a dict that nobody else holds -/
section
variable {K : PySem.W.Frag} {a b : Addr} {xs zs : List V} {g : TG} {tb : TS} {D : Ends} {σ : L2.St} {H : Hp}
theorem for_enum (Pv : Nat → L2.St → Hp → Prop) (h0 : Pv 0 σ H) (hl : ∀ i σ H, Pv i σ H → SqL K H a xs)
    (hs : ∀ i x T σ H H', xs[i]? = some x → Pv i σ H → H T = none → Same H H' → H' T = some (.tup [.int (i : Nat), x]) → g (.ref T) σ H' fun σ2 H2 => tb { D with nx := Pv (i + 1), ct := Pv (i + 1), bk := D.nx } σ2 H2) (hd : ∀ σ H, Pv xs.length σ H → D.nx σ H) :
    ∃ W : Nat → Nat → L2.St → Hp → Prop, (∃ m, W 0 m σ H) ∧ ∀ i m σ H, W i m σ H →
      ((Ite K a).stop i H ∧ D.nx σ H) ∨ ((Ite K a).go i H ∧ ∃ N : L2.St → Hp → Prop, (∀ σ' H', N σ' H' → ∃ m', m' < m ∧ W (i + 1) m' σ' H') ∧ ∀ v H', (Ite K a).yld i H v H' → g v σ H' fun σ2 H2 => tb { D with nx := N, ct := N, bk := D.nx } σ2 H2) := by
  refine ⟨fun i m σ H => m = xs.length - i ∧ i ≤ xs.length ∧ Pv i σ H, ⟨xs.length, rfl, Nat.zero_le _, h0⟩, ?_⟩
  rintro i m σ H ⟨rfl, hi, p⟩
  have q := hl i σ H p
  by_cases hlt : i < xs.length
  · refine .inr ⟨⟨xs, xs[i], q, by simp [hlt]⟩, Pv (i + 1), fun σ' H' p' => ⟨xs.length - (i + 1), by omega, rfl, hlt, p'⟩, fun v H' y => ?_⟩
    obtain ⟨T, x, rfl, nT, rfl, hx⟩ := y
    exact hs i x T σ H _ (hx xs q) p nT (Same.upd0 nT) upd_same
  · have ei : i = xs.length := by omega
    subst ei
    exact .inl ⟨⟨xs, q, Nat.le_refl _⟩, hd σ H p⟩
theorem for_zip (hlen : xs.length = zs.length) (Pv : Nat → L2.St → Hp → Prop) (h0 : Pv 0 σ H) (hl : ∀ i σ H, Pv i σ H → SqL K H a xs ∧ SqL K H b zs)
    (hs : ∀ i x z T σ H H', xs[i]? = some x → zs[i]? = some z → Pv i σ H → H T = none → Same H H' → H' T = some (.tup [x, z]) → g (.ref T) σ H' fun σ2 H2 => tb { D with nx := Pv (i + 1), ct := Pv (i + 1), bk := D.nx } σ2 H2) (hd : ∀ σ H, Pv xs.length σ H → D.nx σ H) :
    ∃ W : Nat → Nat → L2.St → Hp → Prop, (∃ m, W 0 m σ H) ∧ ∀ i m σ H, W i m σ H →
      ((Itz K a b).stop i H ∧ D.nx σ H) ∨ ((Itz K a b).go i H ∧ ∃ N : L2.St → Hp → Prop, (∀ σ' H', N σ' H' → ∃ m', m' < m ∧ W (i + 1) m' σ' H') ∧ ∀ v H', (Itz K a b).yld i H v H' → g v σ H' fun σ2 H2 => tb { D with nx := N, ct := N, bk := D.nx } σ2 H2) := by
  refine ⟨fun i m σ H => m = xs.length - i ∧ i ≤ xs.length ∧ Pv i σ H, ⟨xs.length, rfl, Nat.zero_le _, h0⟩, ?_⟩
  rintro i m σ H ⟨rfl, hi, p⟩
  obtain ⟨q1, q2⟩ := hl i σ H p
  by_cases hlt : i < xs.length
  · have hlt2 : i < zs.length := by omega
    refine .inr ⟨⟨xs, zs, xs[i], zs[i], q1, q2, by simp [hlt], by simp [hlt2]⟩, Pv (i + 1), fun σ' H' p' => ⟨xs.length - (i + 1), by omega, rfl, hlt, p'⟩, fun v H' y => ?_⟩
    obtain ⟨T, x, z, rfl, nT, rfl, hx, hz⟩ := y
    exact hs i x z T σ H _ (hx xs q1) (hz zs q2) p nT (Same.upd0 nT) upd_same
  · have ei : i = xs.length := by omega
    subst ei
    exact .inl ⟨⟨xs, zs, q1, q2, .inl (Nat.le_refl _)⟩, hd σ H p⟩
theorem for_items {d : Addr} {o : Obj} {kvs : List (Key × V)} (Pv : Nat → L2.St → Hp → Prop) (h0 : Pv 0 σ H) (hl : ∀ i σ H, Pv i σ H → H d = some (.frz o (.dK kvs)))
    (hs : ∀ i k v T σ H H', kvs[i]? = some (k, v) → Pv i σ H → H T = none → Same H H' → H' T = some (.tup [kV k, v]) → g (.ref T) σ H' fun σ2 H2 => tb { D with nx := Pv (i + 1), ct := Pv (i + 1), bk := D.nx } σ2 H2) (hd : ∀ σ H, Pv kvs.length σ H → D.nx σ H) :
    ∃ W : Nat → Nat → L2.St → Hp → Prop, (∃ m, W 0 m σ H) ∧ ∀ i m σ H, W i m σ H →
      ((Iti d o kvs).stop i H ∧ D.nx σ H) ∨ ((Iti d o kvs).go i H ∧ ∃ N : L2.St → Hp → Prop, (∀ σ' H', N σ' H' → ∃ m', m' < m ∧ W (i + 1) m' σ' H') ∧ ∀ v H', (Iti d o kvs).yld i H v H' → g v σ H' fun σ2 H2 => tb { D with nx := N, ct := N, bk := D.nx } σ2 H2) := by
  refine ⟨fun i m σ H => m = kvs.length - i ∧ i ≤ kvs.length ∧ Pv i σ H, ⟨kvs.length, rfl, Nat.zero_le _, h0⟩, ?_⟩
  rintro i m σ H ⟨rfl, hi, p⟩
  have q := hl i σ H p
  by_cases hlt : i < kvs.length
  · refine .inr ⟨⟨q, hlt⟩, Pv (i + 1), fun σ' H' p' => ⟨kvs.length - (i + 1), by omega, rfl, hlt, p'⟩, fun v H' y => ?_⟩
    obtain ⟨T, k, v, hx, rfl, nT, rfl⟩ := y
    exact hs i k v T σ H _ hx p nT (Same.upd0 nT) upd_same
  · have ei : i = kvs.length := by omega
    subst ei
    exact .inl ⟨⟨q, Nat.le_refl _⟩, hd σ H p⟩
end
/-! ### data, == -/
section
variable {K : PySem.W.Frag} {H H' : Hp}
theorem Same.seqT {a : Addr} {xs : List V} (e : Same H H') (h : SqT K H a xs) : SqT K H' a xs := by
  rcases h with (h | ⟨o, h⟩) | h
  · exact .inl (.inl (e _ _ h))
  · exact .inl (.inr ⟨o, e _ _ h⟩)
  · exact .inr h
mutual
theorem dp_mono (s : Same H H') : ∀ {v : V} {d : PyData}, Dp K H v d → Dp K H' v d
  | _, _, .non => .non
  | _, _, .bl b => .bl b
  | _, _, .int i => .int i
  | _, _, .str x => .str x
  | _, _, .lst h a => .lst (s.seq h) (dpAll_mono s a)
  | _, _, .tup h a => .tup (Same.seqT s h) (dpAll_mono s a)
theorem dpAll_mono (s : Same H H') : ∀ {vs : List V} {ds : List PyData}, DpAll K H vs ds → DpAll K H' vs ds
  | _, _, .nil => .nil
  | _, _, .cons h t => .cons (dp_mono s h) (dpAll_mono s t)
end
theorem dpAll_map {α : Type} {f : α → V} {g : α → PyData} (h : ∀ x, Dp K H (f x) (g x)) : ∀ xs : List α, DpAll K H (xs.map f) (xs.map g)
  | [] => .nil
  | x :: xs => .cons (h x) (dpAll_map h xs)
theorem dp_ints {a : Addr} {ns : List Int} (h : SqL K H a (ns.map V.int)) : Dp K H (.ref a) (.list (ns.map .int)) := .lst h (dpAll_map (fun i => .int i) ns)
def optD : Option Int → PyData
  | some i => .int i
  | none => .none
theorem dp_opt : ∀ x, Dp K H (optI x) (optD x)
  | some i => .int i
  | none => .non
theorem dp_opts {a : Addr} {ns : List (Option Int)} (h : SqL K H a (ns.map optI)) : Dp K H (.ref a) (.list (ns.map optD)) := .lst h (dpAll_map dp_opt ns)
end
mutual
/-- data without truths and dicts -/
def nob : PyData → Bool
  | .none | .int _ | .str _ => true
  | .bool _ | .dict _ => false
  | .list xs | .tuple xs => nobAll xs
def nobAll : List PyData → Bool
  | [] => true
  | x :: xs => nob x && nobAll xs
end
mutual
theorem eqv_iff : ∀ {d e : PyData}, nob d = true → nob e = true → (PyData.eqv d e = true ↔ d = e)
  | .none, .none, _, _ => by simp [PyData.eqv]
  | .none, .int _, _, _ => by simp [PyData.eqv]
  | .none, .str _, _, _ => by simp [PyData.eqv]
  | .none, .list _, _, _ => by simp [PyData.eqv]
  | .none, .tuple _, _, _ => by simp [PyData.eqv]
  | .int _, .none, _, _ => by simp [PyData.eqv]
  | .int _, .int _, _, _ => by simp [PyData.eqv]
  | .int _, .str _, _, _ => by simp [PyData.eqv]
  | .int _, .list _, _, _ => by simp [PyData.eqv]
  | .int _, .tuple _, _, _ => by simp [PyData.eqv]
  | .str _, .none, _, _ => by simp [PyData.eqv]
  | .str _, .int _, _, _ => by simp [PyData.eqv]
  | .str _, .str _, _, _ => by simp [PyData.eqv]
  | .str _, .list _, _, _ => by simp [PyData.eqv]
  | .str _, .tuple _, _, _ => by simp [PyData.eqv]
  | .list _, .none, _, _ => by simp [PyData.eqv]
  | .list _, .int _, _, _ => by simp [PyData.eqv]
  | .list _, .str _, _, _ => by simp [PyData.eqv]
  | .list xs, .list ys, h1, h2 => by
    have h := eqvAll_iff (xs := xs) (ys := ys) (by simpa [nob] using h1) (by simpa [nob] using h2)
    simp only [PyData.eqv, PyData.list.injEq]; exact h
  | .list _, .tuple _, _, _ => by simp [PyData.eqv]
  | .tuple _, .none, _, _ => by simp [PyData.eqv]
  | .tuple _, .int _, _, _ => by simp [PyData.eqv]
  | .tuple _, .str _, _, _ => by simp [PyData.eqv]
  | .tuple _, .list _, _, _ => by simp [PyData.eqv]
  | .tuple xs, .tuple ys, h1, h2 => by
    have h := eqvAll_iff (xs := xs) (ys := ys) (by simpa [nob] using h1) (by simpa [nob] using h2)
    simp only [PyData.eqv, PyData.tuple.injEq]; exact h
  | .bool _, _, h, _ => by simp [nob] at h
  | .dict _, _, h, _ => by simp [nob] at h
  | .none, .bool _, _, h => by simp [nob] at h
  | .none, .dict _, _, h => by simp [nob] at h
  | .int _, .bool _, _, h => by simp [nob] at h
  | .int _, .dict _, _, h => by simp [nob] at h
  | .str _, .bool _, _, h => by simp [nob] at h
  | .str _, .dict _, _, h => by simp [nob] at h
  | .list _, .bool _, _, h => by simp [nob] at h
  | .list _, .dict _, _, h => by simp [nob] at h
  | .tuple _, .bool _, _, h => by simp [nob] at h
  | .tuple _, .dict _, _, h => by simp [nob] at h
theorem eqvAll_iff : ∀ {xs ys : List PyData}, nobAll xs = true → nobAll ys = true → (PyData.eqvAll xs ys = true ↔ xs = ys)
  | [], [], _, _ => by simp [PyData.eqvAll]
  | [], _ :: _, _, _ => by simp [PyData.eqvAll]
  | _ :: _, [], _, _ => by simp [PyData.eqvAll]
  | x :: xs, y :: ys, h1, h2 => by
    simp only [nobAll, Bool.and_eq_true] at h1 h2
    have a := eqv_iff h1.1 h2.1
    have b := eqvAll_iff h1.2 h2.2
    simp only [PyData.eqvAll, Bool.and_eq_true, List.cons.injEq]
    rw [a, b]
end
theorem eqv_dec {d e : PyData} (h1 : nob d = true) (h2 : nob e = true) {b : Bool} (h : b = true ↔ d = e) : PyData.eqv d e = b := by
  have a := eqv_iff h1 h2
  cases hb : b with
  | true => rw [hb] at h; exact a.mpr (h.mp rfl)
  | false =>
    cases he : PyData.eqv d e with
    | false => rfl
    | true => have := h.mpr (a.mp he); rw [hb] at this; cases this
theorem nobAll_map {α : Type} {g : α → PyData} (h : ∀ x, nob (g x) = true) : ∀ xs : List α, nobAll (xs.map g) = true
  | [] => by simp [nobAll]
  | x :: xs => by simp only [List.map_cons, nobAll, h x, nobAll_map h xs, Bool.and_self]
theorem canLayAll0_map {α : Type} {g : α → PyData} (h : ∀ x, (g x).canLay0 = true) : ∀ xs : List α, PyData.canLayAll0 (xs.map g) = true
  | [] => by simp [PyData.canLayAll0]
  | x :: xs => by simp only [List.map_cons, PyData.canLayAll0, h x, canLayAll0_map h xs, Bool.and_self]
theorem depthAll_map {α : Type} {g : α → PyData} {m : Nat} (h : ∀ x, (g x).depth ≤ m) : ∀ xs : List α, PyData.depthAll (xs.map g) ≤ m
  | [] => by simp [PyData.depthAll]
  | x :: xs => by
    have h1 := h x
    have h2 := depthAll_map h xs
    simp only [List.map_cons, PyData.depthAll]; omega
theorem shaped_map {α : Type} {g : α → PyData} {m : Nat} (hm : m < 64) (h1 : ∀ x, (g x).canLay0 = true) (h2 : ∀ x, (g x).depth ≤ m) (xs : List α) : SeqAt.shaped (.list (xs.map g)) = true := by
  unfold SeqAt.shaped
  rw [Bool.and_eq_true]
  refine ⟨by simp only [PyData.canLay0]; exact canLayAll0_map h1 xs, decide_eq_true ?_⟩
  have := depthAll_map h2 xs
  simp only [PyData.depth]; omega
theorem shaped_ints (ns : List Int) : SeqAt.shaped (.list (ns.map .int)) = true := shaped_map (m := 0) (by decide) (fun _ => by simp [PyData.canLay0]) (fun _ => by simp [PyData.depth]) ns
theorem shaped_opts (ns : List (Option Int)) : SeqAt.shaped (.list (ns.map optD)) = true := shaped_map (m := 0) (by decide) (fun x => by cases x <;> simp [optD, PyData.canLay0]) (fun x => by cases x <;> simp [optD, PyData.depth]) ns
theorem nob_ints (ns : List Int) : nob (.list (ns.map .int)) = true := by simp only [nob]; exact nobAll_map (fun _ => by simp [nob]) ns
theorem nob_opts (ns : List (Option Int)) : nob (.list (ns.map optD)) = true := by simp only [nob]; exact nobAll_map (fun x => by cases x <;> simp [optD, nob]) ns
theorem map_inj {α β : Type} {f : α → β} (h : ∀ a b, f a = f b → a = b) : ∀ {xs ys : List α}, xs.map f = ys.map f → xs = ys
  | [], [], _ => rfl
  | [], _ :: _, e => by simp at e
  | _ :: _, [], e => by simp at e
  | x :: xs, y :: ys, e => by
    simp only [List.map_cons, List.cons.injEq] at e
    rw [h x y e.1, map_inj h e.2]
theorem eqv_ints (ns ms : List Int) : PyData.eqv (.list (ns.map .int)) (.list (ms.map .int)) = decide (ns = ms) :=
  eqv_dec (nob_ints ns) (nob_ints ms) (by
    rw [decide_eq_true_iff]
    exact ⟨fun e => by rw [e], fun e => map_inj (fun a b h => PyData.int.inj h) (PyData.list.inj e)⟩)
theorem eqv_opts (ns ms : List (Option Int)) : PyData.eqv (.list (ns.map optD)) (.list (ms.map optD)) = decide (ns = ms) :=
  eqv_dec (nob_opts ns) (nob_opts ms) (by
    rw [decide_eq_true_iff]
    exact ⟨fun e => by rw [e], fun e => map_inj (fun a b h => by cases a <;> cases b <;> simp_all [optD]) (PyData.list.inj e)⟩)
section
variable {X : Cx}
/-- two lists of ints -/
def rEqIs (K : PySem.W.Frag) : R2 := fun x y H Q => ∃ (a b : Addr) (ns ms : List Int), x = .ref a ∧ y = .ref b ∧ SqL K H a (ns.map V.int) ∧ SqL K H b (ms.map V.int) ∧ Q (.bl (decide (ns = ms))) H
def rNeIs (K : PySem.W.Frag) : R2 := fun x y H Q => ∃ (a b : Addr) (ns ms : List Int), x = .ref a ∧ y = .ref b ∧ SqL K H a (ns.map V.int) ∧ SqL K H b (ms.map V.int) ∧ Q (.bl (!decide (ns = ms))) H
theorem op_eqIs (hu : X.A.units + 64 < cLine) : OpR X (compareOp .Eq) (rEqIs X.K) := opR_imp (op_eqD hu) fun _ _ _ _ ⟨a, b, ns, ms, e1, e2, h1, h2, q⟩ => by
  subst e1 e2
  exact ⟨_, _, dp_ints h1, dp_ints h2, shaped_ints ns, shaped_ints ms, by rw [eqv_ints]; exact q⟩
theorem op_neIs (hu : X.A.units + 64 < cLine) : OpR X (compareOp .NotEq) (rNeIs X.K) := opR_imp (op_neD hu) fun _ _ _ _ ⟨a, b, ns, ms, e1, e2, h1, h2, q⟩ => by
  subst e1 e2
  exact ⟨_, _, dp_ints h1, dp_ints h2, shaped_ints ns, shaped_ints ms, by rw [eqv_ints]; exact q⟩
end
/-! ### rules that hang on the written part, the part by its name (a comprehension's block has the same one) -/
section
variable {X : Cx} {K : PySem.W.Frag}
theorem op_notInK (h : X.K = K) : OpR X (compareOp .NotIn) (rIn K true) := h ▸ op_notIn_seq
theorem op_inK (h : X.K = K) : OpR X (compareOp .In) (rIn K false) := h ▸ op_in_seq
theorem ix_listK (h : X.K = K) : IxR X (rIxL K) := h ▸ ix_list
theorem ix_tupK (h : X.K = K) : IxR X (rIxT K) := h ▸ ix_tup
theorem ix_seqK (h : X.K = K) : IxR X (rIx K) := h ▸ ix_seq
theorem op_catK (h : X.K = K) : OpR X (binaryOp .Add) (rCatA K) := h ▸ op_catA
theorem sl_listK (h : X.K = K) : SlR X (rSlA K) := h ▸ sl_listA
theorem op_eqDK (hu : X.A.units + 64 < cLine) (h : X.K = K) : OpR X (compareOp .Eq) (rEqD K) := h ▸ op_eqD hu
theorem op_neDK (hu : X.A.units + 64 < cLine) (h : X.K = K) : OpR X (compareOp .NotEq) (rNeD K) := h ▸ op_neD hu
theorem units65 {k : Nat} {A : Around} (r : Room k A) : A.units + 65 < cLine := by have := r.un; omega
theorem op_inDK (hu : X.A.units + 65 < cLine) (h : X.K = K) : OpR X (compareOp .In) (rInD K) := h ▸ op_inD hu
theorem op_notInDK (hu : X.A.units + 65 < cLine) (h : X.K = K) : OpR X (compareOp .NotIn) (rNotInD K) := h ▸ op_notInD hu
theorem op_eqIsK (hu : X.A.units + 64 < cLine) (h : X.K = K) : OpR X (compareOp .Eq) (rEqIs K) := h ▸ op_eqIs hu
theorem op_neIsK (hu : X.A.units + 64 < cLine) (h : X.K = K) : OpR X (compareOp .NotEq) (rNeIs K) := h ▸ op_neIs hu
theorem call_isiK (h : X.K = K) : CallR X (.builtin "isinstance") (rIsi K) := h ▸ call_isi
theorem call_isiTK (h : X.K = K) : CallR X (.builtin "isinstance") (rIsiT K) := h ▸ call_isiT
def rLen (K : PySem.W.Frag) : List V → Hp → VK → Prop := fun xs H Q => ∃ x n, xs = [x] ∧ LenV K x H n ∧ Q (.int n) H
theorem call_lenK (h : X.K = K) : CallR X (.builtin "len") (rLen K) := h ▸ call_len
theorem cr_sumK (hc : X.calm = true) (h : X.K = K) : CallR X (.builtin "sum") (rSum K) := h ▸ cr_sum hc
theorem cr_maxK (hc : X.calm = true) (h : X.K = K) : CallR X (.builtin "max") (rMax K) := h ▸ cr_max hc
theorem cr_minK (hc : X.calm = true) (h : X.K = K) : CallR X (.builtin "min") (rMin K) := h ▸ cr_min hc
theorem cr_anyK (hc : X.calm = true) (h : X.K = K) : CallR X (.builtin "any") (rAny K) := h ▸ cr_any hc
theorem cr_allK (hc : X.calm = true) (h : X.K = K) : CallR X (.builtin "all") (rAll K) := h ▸ cr_all hc
theorem call_listK (h : X.K = K) : CallR X (.type "list") (rListA K) := h ▸ call_listA
theorem call_tupLK (h : X.K = K) : CallR X (.type "tuple") (rTupLA K) := h ▸ call_tupLA
theorem pe_fldK {e : Expr} {f : Str} {pos : Pos} {ta : TE} (h : X.K = K) (he : PE X e ta) (hb : attributeBase e f X.env (eval e X.env) = eval e X.env) : PE X (.Attribute e f pos) (tFld K ta f) := h ▸ pe_fld he hb
theorem pi_listK {tg l : Expr} {tl : TE} (h : X.K = K) (hl : PE X l tl) : PI X tg l (iList K tl) := h ▸ pi_list hl
theorem pi_tupK {tg l : Expr} {tl : TE} (h : X.K = K) (hl : PE X l tl) : PI X tg l (iTup K tl) := h ▸ pi_tup hl
theorem pi_enumK {e : Expr} {ta : TA} {p pos tpos : Pos} {elts : List Expr} {kk : Nat} (h : X.K = K) (hg : Gl X "enumerate") (hm : X.mg "enumerate" = none) (ha : PA X [e] ta) (hs : starEach [e] X.env = [(false, eval e X.env)] := by rfl) :
    PI X (.Tuple elts kk tpos) (.Call (.Name "enumerate" p) [e] [] pos) (iEnum K ta) := h ▸ pi_enum hg hm ha hs
theorem pi_zipK {e e2 : Expr} {ta : TA} {p pos tpos : Pos} {elts : List Expr} {kk : Nat} (h : X.K = K) (hg : Gl X "zip") (hm : X.mg "zip" = none) (ha : PA X [e, e2] ta)
    (hs : starEach [e, e2] X.env = (false, eval e X.env) :: starEach [e2] X.env := by rfl) (hpl : (backTo pos (starEach [e2] X.env)).any (·.1) = false := by rfl) :
    PI X (.Tuple elts kk tpos) (.Call (.Name "zip" p) [e, e2] [] pos) (iZip K ta) := h ▸ pi_zip hg hm ha hs hpl
end
/-- a statement with what comes behind it by a name: M holds at its end -/
theorem seq_key {t u : TS} {D : Ends} {σ : L2.St} {H : Hp} (M : L2.St → Hp → Prop) (h2 : ∀ σ H, M σ H → u D σ H) (h1 : ∀ N : L2.St → Hp → Prop, (∀ σ H, M σ H → N σ H) → t { D with nx := N } σ H) : tSeq t u D σ H := h1 _ h2
theorem isIf {a : TT} {b c d : TS} {D : Ends} {σ : L2.St} {H : Hp} (h : tSeq (tIfS a b c) d D σ H) : tSeq (tIfS a b c) d D σ H := h
theorem iteF' {c : Bool} {A B : Prop} (hc : c = false) (h : B) : if c = true then A else B := by
  subst hc; exact iteF h
theorem iteT' {c : Bool} {A B : Prop} (hc : c = true) (h : A) : if c = true then A else B := by
  subst hc; exact iteT h
theorem Dr.seqT {K : PySem.W.Frag} {H H' : Hp} {a b : Addr} {xs : List V} (e : Dr a H H') (n : b ≠ a) (h : SqT K H b xs) : SqT K H' b xs := by
  rcases h with (h | ⟨o, h⟩) | h
  · exact .inl (.inl (e.b _ _ n h))
  · exact .inl (.inr ⟨o, e.b _ _ n h⟩)
  · exact .inr h
theorem int_inj_dec {i j : Int} : decide (V.int i = V.int j) = decide (i = j) := decide_eq_decide.mpr ⟨V.int.inj, fun e => e ▸ rfl⟩
/-- an item of a short written list -/
theorem pick2 {P : V → Prop} {a b : V} {n : Int} (h0 : 0 ≤ n) (h1 : n < 2) (ha : P a) (hb : P b) : ∃ x, atI [a, b] n = some x ∧ P x := by
  have : n = 0 ∨ n = 1 := by omega
  rcases this with rfl | rfl
  · exact ⟨a, rfl, ha⟩
  · exact ⟨b, rfl, hb⟩
theorem pick3 {P : V → Prop} {a b c : V} {n : Int} (h0 : 0 ≤ n) (h1 : n < 3) (ha : P a) (hb : P b) (hc : P c) : ∃ x, atI [a, b, c] n = some x ∧ P x := by
  have : n = 0 ∨ n = 1 ∨ n = 2 := by omega
  rcases this with rfl | rfl | rfl
  · exact ⟨a, rfl, ha⟩
  · exact ⟨b, rfl, hb⟩
  · exact ⟨c, rfl, hc⟩
theorem pick4 {P : V → Prop} {a b c d : V} {n : Int} (h0 : 0 ≤ n) (h1 : n < 4) (ha : P a) (hb : P b) (hc : P c) (hd : P d) : ∃ x, atI [a, b, c, d] n = some x ∧ P x := by
  have : n = 0 ∨ n = 1 ∨ n = 2 ∨ n = 3 := by omega
  rcases this with rfl | rfl | rfl | rfl
  · exact ⟨a, rfl, ha⟩
  · exact ⟨b, rfl, hb⟩
  · exact ⟨c, rfl, hc⟩
  · exact ⟨d, rfl, hd⟩
theorem pick5 {P : V → Prop} {a b c d e : V} {n : Int} (h0 : 0 ≤ n) (h1 : n < 5) (ha : P a) (hb : P b) (hc : P c) (hd : P d) (he : P e) : ∃ x, atI [a, b, c, d, e] n = some x ∧ P x := by
  have : n = 0 ∨ n = 1 ∨ n = 2 ∨ n = 3 ∨ n = 4 := by omega
  rcases this with rfl | rfl | rfl | rfl | rfl
  · exact ⟨a, rfl, ha⟩
  · exact ⟨b, rfl, hb⟩
  · exact ⟨c, rfl, hc⟩
  · exact ⟨d, rfl, hd⟩
  · exact ⟨e, rfl, he⟩
theorem pick6 {P : V → Prop} {a b c d e f : V} {n : Int} (h0 : 0 ≤ n) (h1 : n < 6) (ha : P a) (hb : P b) (hc : P c) (hd : P d) (he : P e) (hf : P f) : ∃ x, atI [a, b, c, d, e, f] n = some x ∧ P x := by
  have : n = 0 ∨ n = 1 ∨ n = 2 ∨ n = 3 ∨ n = 4 ∨ n = 5 := by omega
  rcases this with rfl | rfl | rfl | rfl | rfl | rfl
  · exact ⟨a, rfl, ha⟩
  · exact ⟨b, rfl, hb⟩
  · exact ⟨c, rfl, hc⟩
  · exact ⟨d, rfl, hd⟩
  · exact ⟨e, rfl, he⟩
  · exact ⟨f, rfl, hf⟩
/-- an int within bounds -/
def InR (lo hi : Int) (x : V) : Prop := ∃ z, x = .int z ∧ lo ≤ z ∧ z < hi
/-! ### isinstance of plain things -/
section
variable {X : Cx}
def rIs (T : String) (ans : V → String → Bool) : List V → Hp → VK → Prop := fun xs H Q => ∃ x t, xs = [x, .ty T] ∧ Ty7 H x t ∧ Q (.bl (ans x t)) H
theorem call_isTy (T : String) (ans : V → String → Bool) (h : ∀ H x t, Ty7 H x t → kitB t T = some (ans x t)) : CallR X (.builtin "isinstance") (rIs T ans) :=
  callR_imp call_isi fun _ H Q ⟨x, t, e, ht, q⟩ => ⟨x, _, _, _, _, e, .ty _, ht.tx, kit_ty (h H x t ht), q⟩
theorem is_list : CallR X (.builtin "isinstance") (rIs "list" fun _ t => decide (t = "list")) := call_isTy _ _ fun _ _ _ h => h.kl
theorem is_tuple : CallR X (.builtin "isinstance") (rIs "tuple" fun _ t => decide (t = "tuple")) := call_isTy _ _ fun _ _ _ h => h.kt
theorem is_str : CallR X (.builtin "isinstance") (rIs "str" fun _ t => decide (t = "str")) := call_isTy _ _ fun _ _ _ h => h.ks
theorem is_int : CallR X (.builtin "isinstance") (rIs "int" fun x _ => isI x || isB x) := call_isTy _ _ fun _ _ _ h => h.ki
theorem is_bool : CallR X (.builtin "isinstance") (rIs "bool" fun x _ => isB x) := call_isTy _ _ fun _ _ _ h => h.kb
end
/-! ### comprehensions, shorter: one item for each, those that a test keeps, items that draw -/
section
variable {K : PySem.W.Frag} {a b s : Addr} {g : TG} {tt : TT} {te : TE} {vs : List Nat} {σ : L2.St} {H1 : Hp} {D : Addr} {Qd : Hp → Prop} {α β : Type}
abbrev LcG (I : It) (g : TG) (tt : TT) (te : TE) (vs : List Nat) (σ : L2.St) (H1 : Hp) (D : Addr) (Qd : Hp → Prop) : Prop :=
    ∃ W : Nat → Nat → Hp → Prop, (∃ m, W 0 m (upd H1 D (.lst []))) ∧ ∀ i m H, W i m H →
      (I.stop i H ∧ Qd H) ∨ (I.go i H ∧ ∃ Nx : Hp → Prop, (∀ H', Nx H' → ∃ m', m' < m ∧ W (i + 1) m' H') ∧ ∀ x H', I.yld i H x H' → g x (wipe σ vs) H' fun σ2 H2 => wipe σ2 vs = wipe σ vs ∧ tt σ2 H2 fun b H3 =>
        if b = true then te σ2 H3 fun y H4 => ∃ acc, H4 D = some (.lst acc) ∧ acc.length < sizeLine ∧ Nx (upd H4 D (.lst (acc ++ [y]))) else Nx H3)
def ysF (f : α → V) (q : α → Bool) (xs : List α) (i : Nat) : Option V := xs[i]?.bind fun x => if q x = true then some (f x) else none
theorem ysF_all (f : α → V) (q : α → Bool) (xs : List α) : lcYs xs.length (ysF f q xs) = (xs.filter q).map f := lcYs_filter q f xs _ fun i x h => by unfold ysF; rw [h]; rfl
theorem ysF_one (f : α → V) (xs : List α) : lcYs xs.length (ysF f (fun _ => true) xs) = xs.map f := by
  rw [ysF_all, List.filter_eq_self.mpr fun _ _ => rfl]
theorem of_map {ρ : α → V} {ys : List α} {i : Nat} {x : V} (h : (ys.map ρ)[i]? = some x) : ∃ y, ys[i]? = some y ∧ x = ρ y := by
  rw [List.getElem?_map] at h
  cases e : ys[i]? with
  | none => rw [e] at h; cases h
  | some z => rw [e] at h; exact ⟨z, rfl, (Option.some.inj h).symm⟩
theorem lcLf (ρ f : α → V) (q : α → Bool) {ys : List α} (hD : H1 D = none) (hx : SqL K H1 a (ys.map ρ)) (hn : ys.length ≤ 100000)
    (hs : ∀ (i : Nat) (y : α) (H : Hp) (Kt : V → Hp → Prop) (Kf : Hp → Prop), ys[i]? = some y → Same H1 H → (q y = true → ∀ H4, Same H H4 → Kt (f y) H4) → (q y = false → ∀ H4, Same H H4 → Kf H4) → LcT g tt te vs σ (ρ y) H Kt Kf)
    (hd : ∀ H, Same H1 H → H D = some (.lst ((ys.filter q).map f)) → Qd H) : LcG (Itl K a) g tt te vs σ H1 D Qd :=
  lcLq (ysF f q ys) hD hx (by rw [List.length_map]; exact hn) (fun i x H Kt Kf hxi s qq => by
    obtain ⟨y, hy, rfl⟩ := of_map hxi
    exact hs i y H Kt Kf hy s (fun e H4 s4 => qq.yes _ _ s4 (by unfold ysF; rw [hy]; exact if_pos e)) (fun e H4 s4 => qq.no _ s4 (by unfold ysF; rw [hy]; exact if_neg (by rw [e]; simp))))
    (fun H s h => hd H s (by rw [h, List.length_map, ysF_all]))
theorem lcLm (ρ f : α → V) {ys : List α} (hD : H1 D = none) (hx : SqL K H1 a (ys.map ρ)) (hn : ys.length ≤ 100000)
    (hs : ∀ (i : Nat) (y : α) (H : Hp) (Kt : V → Hp → Prop) (Kf : Hp → Prop), ys[i]? = some y → Same H1 H → (∀ H4, Same H H4 → Kt (f y) H4) → LcT g tt te vs σ (ρ y) H Kt Kf)
    (hd : ∀ H, Same H1 H → H D = some (.lst (ys.map f)) → Qd H) : LcG (Itl K a) g tt te vs σ H1 D Qd :=
  lcLf ρ f (fun _ => true) hD hx hn (fun i y H Kt Kf hy s h _ => hs i y H Kt Kf hy s (h rfl)) (fun H s h => hd H s (by rw [h, List.filter_eq_self.mpr fun _ _ => rfl]))
theorem lcTf (ρ f : α → V) (q : α → Bool) {ys : List α} (hD : H1 D = none) (hx : SqT K H1 a (ys.map ρ)) (hn : ys.length ≤ 100000)
    (hs : ∀ (i : Nat) (y : α) (H : Hp) (Kt : V → Hp → Prop) (Kf : Hp → Prop), ys[i]? = some y → Same H1 H → (q y = true → ∀ H4, Same H H4 → Kt (f y) H4) → (q y = false → ∀ H4, Same H H4 → Kf H4) → LcT g tt te vs σ (ρ y) H Kt Kf)
    (hd : ∀ H, Same H1 H → H D = some (.lst ((ys.filter q).map f)) → Qd H) : LcG (Itt K a) g tt te vs σ H1 D Qd :=
  lcTq (ysF f q ys) hD hx (by rw [List.length_map]; exact hn) (fun i x H Kt Kf hxi s qq => by
    obtain ⟨y, hy, rfl⟩ := of_map hxi
    exact hs i y H Kt Kf hy s (fun e H4 s4 => qq.yes _ _ s4 (by unfold ysF; rw [hy]; exact if_pos e)) (fun e H4 s4 => qq.no _ s4 (by unfold ysF; rw [hy]; exact if_neg (by rw [e]; simp))))
    (fun H s h => hd H s (by rw [h, List.length_map, ysF_all]))
theorem lcTm (ρ f : α → V) {ys : List α} (hD : H1 D = none) (hx : SqT K H1 a (ys.map ρ)) (hn : ys.length ≤ 100000)
    (hs : ∀ (i : Nat) (y : α) (H : Hp) (Kt : V → Hp → Prop) (Kf : Hp → Prop), ys[i]? = some y → Same H1 H → (∀ H4, Same H H4 → Kt (f y) H4) → LcT g tt te vs σ (ρ y) H Kt Kf)
    (hd : ∀ H, Same H1 H → H D = some (.lst (ys.map f)) → Qd H) : LcG (Itt K a) g tt te vs σ H1 D Qd :=
  lcTf ρ f (fun _ => true) hD hx hn (fun i y H Kt Kf hy s h _ => hs i y H Kt Kf hy s (h rfl)) (fun H s h => hd H s (by rw [h, List.filter_eq_self.mpr fun _ _ => rfl]))
theorem range_get {n i : Nat} (h : i < n) : (List.range n)[i]? = some i := List.getElem?_range h
theorem lcRf {lo : Int} {n : Nat} (f : Nat → V) (q : Nat → Bool) (hD : H1 D = none) (hn : n ≤ 100000)
    (hs : ∀ (i : Nat) (H : Hp) (Kt : V → Hp → Prop) (Kf : Hp → Prop), i < n → Same H1 H → (q i = true → ∀ H4, Same H H4 → Kt (f i) H4) → (q i = false → ∀ H4, Same H H4 → Kf H4) → LcT g tt te vs σ (.int (lo + i)) H Kt Kf)
    (hd : ∀ H, Same H1 H → H D = some (.lst (((List.range n).filter q).map f)) → Qd H) : LcG (Itr lo n) g tt te vs σ H1 D Qd :=
  lcRq (ysF f q (List.range n)) hD hn (fun i H Kt Kf hi s qq =>
    hs i H Kt Kf hi s (fun e H4 s4 => qq.yes _ _ s4 (by unfold ysF; rw [range_get hi]; exact if_pos e)) (fun e H4 s4 => qq.no _ s4 (by unfold ysF; rw [range_get hi]; exact if_neg (by rw [e]; simp))))
    (fun H s h => hd H s (by have := ysF_all f q (List.range n); rw [List.length_range] at this; rw [h, this]))
theorem lcRm {lo : Int} {n : Nat} (f : Nat → V) (hD : H1 D = none) (hn : n ≤ 100000)
    (hs : ∀ (i : Nat) (H : Hp) (Kt : V → Hp → Prop) (Kf : Hp → Prop), i < n → Same H1 H → (∀ H4, Same H H4 → Kt (f i) H4) → LcT g tt te vs σ (.int (lo + i)) H Kt Kf)
    (hd : ∀ H, Same H1 H → H D = some (.lst ((List.range n).map f)) → Qd H) : LcG (Itr lo n) g tt te vs σ H1 D Qd :=
  lcRf f (fun _ => true) hD hn (fun i H Kt Kf hi s h _ => hs i H Kt Kf hi s (h rfl)) (fun H s h => hd H s (by rw [h, List.filter_eq_self.mpr fun _ _ => rfl]))
/-- items that draw from the source at s -/
theorem lcRd {lo : Int} {n : Nat} (ρ : β → V) (R : Nat → β → Prop) (h0 : Src H1 s) (hD : H1 D = none) (hn : n ≤ 100000)
    (hs : ∀ (i : Nat) (H : Hp) (Kt : V → Hp → Prop) (Kf : Hp → Prop), i < n → Dr s H1 H → (∀ b H4, Dr s H H4 → R i b → Kt (ρ b) H4) → LcT g tt te vs σ (.int (lo + i)) H Kt Kf)
    (hd : ∀ (us : List β) (H : Hp), Dr s H1 H → us.length = n → (∀ (i : Nat) (b : β), us[i]? = some b → R i b) → D ≠ s → H D = some (.lst (us.map ρ)) → Qd H) : LcG (Itr lo n) g tt te vs σ H1 D Qd :=
  have nD : D ≠ s := h0.ne hD
  lcR (fun i acc H' => Dr s H1 H' ∧ ∃ us : List β, acc = us.map ρ ∧ us.length = i ∧ ∀ (i : Nat) (b : β), us[i]? = some b → R i b)
    (fun H' s' _ => ⟨Dr.of h0 s', [], rfl, rfl, fun i b h => by cases h⟩) hD (fun i acc H' Kt Kf hi p e kk => by
      obtain ⟨dp, us, rfl, hul, hub⟩ := p
      exact hs i H' Kt Kf hi dp fun b H4 d4 hR => kk.yes _ _ (d4.app nD e) (Nat.lt_of_lt_of_le (show _ < 100001 by rw [List.length_map]; omega) (by decide)) fun H5 b5 g5 => ⟨Dr.mut (dp.trans d4) b5 hD nD.symm, us ++ [b], by rw [List.map_append]; rfl, by rw [List.length_append, hul]; rfl, fun j c hc => by
        by_cases hj : j < us.length
        · rw [List.getElem?_append_left hj] at hc; exact hub j c hc
        · have hj2 : j = i := by
            have := (List.getElem?_eq_some_iff.mp hc).1
            rw [List.length_append] at this
            simp at this; omega
          subst hj2
          rw [← hul, List.getElem?_concat_length] at hc
          cases hc; exact hR⟩)
    (fun acc H' p e => by
      obtain ⟨dp, us, rfl, hul, hub⟩ := p
      exact hd us H' dp hul hub nD e)
theorem lcLd (ρ0 : α → V) (ρ : β → V) (R : Nat → β → Prop) {ys : List α} (h0 : Src H1 s) (hD : H1 D = none) (na : a ≠ s) (hx : SqL K H1 a (ys.map ρ0)) (hn : ys.length ≤ 100000)
    (hs : ∀ (i : Nat) (y : α) (H : Hp) (Kt : V → Hp → Prop) (Kf : Hp → Prop), ys[i]? = some y → Dr s H1 H → (∀ b H4, Dr s H H4 → R i b → Kt (ρ b) H4) → LcT g tt te vs σ (ρ0 y) H Kt Kf)
    (hd : ∀ (us : List β) (H : Hp), Dr s H1 H → us.length = ys.length → (∀ (i : Nat) (b : β), us[i]? = some b → R i b) → D ≠ s → H D = some (.lst (us.map ρ)) → Qd H) : LcG (Itl K a) g tt te vs σ H1 D Qd :=
  have nD : D ≠ s := h0.ne hD
  lcL (fun i acc H' => Dr s H1 H' ∧ ∃ us : List β, acc = us.map ρ ∧ us.length = i ∧ ∀ (i : Nat) (b : β), us[i]? = some b → R i b)
    (fun H' s' _ => ⟨Dr.of h0 s', [], rfl, rfl, fun i b h => by cases h⟩) hD (fun i acc H' p => p.1.seq na hx) (fun i x acc H' Kt Kf hxi p e kk => by
      obtain ⟨y, hy, rfl⟩ := of_map hxi
      have hi := (List.getElem?_eq_some_iff.mp hy).1
      obtain ⟨dp, us, rfl, hul, hub⟩ := p
      exact hs i y H' Kt Kf hy dp fun b H4 d4 hR => kk.yes _ _ (d4.app nD e) (Nat.lt_of_lt_of_le (show _ < 100001 by rw [List.length_map]; omega) (by decide)) fun H5 b5 g5 => ⟨Dr.mut (dp.trans d4) b5 hD nD.symm, us ++ [b], by rw [List.map_append]; rfl, by rw [List.length_append, hul]; rfl, fun j c hc => by
        by_cases hj : j < us.length
        · rw [List.getElem?_append_left hj] at hc; exact hub j c hc
        · have hj2 : j = i := by
            have := (List.getElem?_eq_some_iff.mp hc).1
            rw [List.length_append] at this
            simp at this; omega
          subst hj2
          rw [← hul, List.getElem?_concat_length] at hc
          cases hc; exact hR⟩)
    (fun acc H' p e => by
      obtain ⟨dp, us, rfl, hul, hub⟩ := p
      rw [List.length_map] at hul
      exact hd us H' dp hul hub nD e)
/-- items that are new objects: R holds of each, as long as nothing but the list itself changes -/
theorem lcLs (ρ0 : α → V) {ys : List α} (R : Nat → V → Hp → Prop) (mono : ∀ i v H H' acc, R i v H → H D = some (.lst acc) → But D H H' → R i v H') (hD : H1 D = none) (hx : SqL K H1 a (ys.map ρ0)) (hn : ys.length ≤ 100000)
    (hs : ∀ (i : Nat) (y : α) (H : Hp) (Kt : V → Hp → Prop) (Kf : Hp → Prop) (acc : List V), ys[i]? = some y → Same H1 H → H D = some (.lst acc) → (∀ v H4, Same H H4 → R i v H4 → Kt v H4) → LcT g tt te vs σ (ρ0 y) H Kt Kf)
    (hd : ∀ (us : List V) (H : Hp), Same H1 H → us.length = ys.length → (∀ (i : Nat) (b : V), us[i]? = some b → R i b H) → H D = some (.lst us) → Qd H) : LcG (Itl K a) g tt te vs σ H1 D Qd :=
  lcL (fun i acc H' => Same H1 H' ∧ acc.length = i ∧ ∀ (i : Nat) (b : V), acc[i]? = some b → R i b H')
    (fun H' s' _ => ⟨s', rfl, fun i b h => by cases h⟩) hD (fun i acc H' p => p.1.seq hx) (fun i x acc H' Kt Kf hxi p e kk => by
      obtain ⟨y, hy, rfl⟩ := of_map hxi
      have hi := (List.getElem?_eq_some_iff.mp hy).1
      obtain ⟨dp, hul, hub⟩ := p
      exact hs i y H' Kt Kf acc hy dp e fun b H4 s4 hR => kk.yes _ _ (s4 _ _ e) (Nat.lt_of_lt_of_le (show _ < 100001 by omega) (by decide)) fun H5 b5 g5 => ⟨Same.mut' (dp.trans s4) b5 hD, by rw [List.length_append, hul]; rfl, fun j c hc => by
        by_cases hj : j < acc.length
        · rw [List.getElem?_append_left hj] at hc
          exact mono _ _ _ _ _ (mono _ _ _ _ _ (hub j c hc) e (Same.but s4)) (s4 _ _ e) b5
        · have hj2 : j = i := by
            have := (List.getElem?_eq_some_iff.mp hc).1
            rw [List.length_append] at this
            simp at this; omega
          subst hj2
          rw [← hul, List.getElem?_concat_length] at hc
          cases hc; exact mono _ _ _ _ _ hR (s4 _ _ e) b5⟩)
    (fun acc H' p e => by
      obtain ⟨dp, hul, hub⟩ := p
      rw [List.length_map] at hul
      exact hd acc H' dp hul hub e)
/-- items that are drawn and are new objects -/
theorem lcRo {lo : Int} {n : Nat} (R : Nat → V → Hp → Prop) (monoD : ∀ i v H H' acc, R i v H → H D = some (.lst acc) → But D H H' → R i v H') (monoS : ∀ i v H H', R i v H → Src H s → Dr s H H' → R i v H') (h0 : Src H1 s) (hD : H1 D = none) (hn : n ≤ 100000)
    (hs : ∀ (i : Nat) (H : Hp) (Kt : V → Hp → Prop) (Kf : Hp → Prop) (acc : List V), i < n → Dr s H1 H → H D = some (.lst acc) → (∀ v H4, Dr s H H4 → R i v H4 → Kt v H4) → LcT g tt te vs σ (.int (lo + i)) H Kt Kf)
    (hd : ∀ (us : List V) (H : Hp), Dr s H1 H → us.length = n → (∀ (i : Nat) (b : V), us[i]? = some b → R i b H) → D ≠ s → H D = some (.lst us) → Qd H) : LcG (Itr lo n) g tt te vs σ H1 D Qd :=
  have nD : D ≠ s := h0.ne hD
  lcR (fun i acc H' => Dr s H1 H' ∧ acc.length = i ∧ ∀ (i : Nat) (b : V), acc[i]? = some b → R i b H')
    (fun H' s' _ => ⟨Dr.of h0 s', rfl, fun i b h => by cases h⟩) hD (fun i acc H' Kt Kf hi p e kk => by
      obtain ⟨dp, hul, hub⟩ := p
      exact hs i H' Kt Kf acc hi dp e fun b H4 d4 hR => kk.yes _ _ (d4.app nD e) (Nat.lt_of_lt_of_le (show _ < 100001 by omega) (by decide)) fun H5 b5 g5 => ⟨Dr.mut (dp.trans d4) b5 hD nD.symm, by rw [List.length_append, hul]; rfl, fun j c hc => by
        by_cases hj : j < acc.length
        · rw [List.getElem?_append_left hj] at hc
          exact monoD _ _ _ _ _ (monoS _ _ _ _ (hub j c hc) dp.s d4) (d4.app nD e) b5
        · have hj2 : j = i := by
            have := (List.getElem?_eq_some_iff.mp hc).1
            rw [List.length_append] at this
            simp at this; omega
          subst hj2
          rw [← hul, List.getElem?_concat_length] at hc
          cases hc; exact monoD _ _ _ _ _ hR (d4.app nD e) b5⟩)
    (fun acc H' p e => by
      obtain ⟨dp, hul, hub⟩ := p
      exact hd acc H' dp hul hub nD e)
/-- over a list that stands for another one -/
theorem lcLr {xs : List V} {qs : List α} (f : α → V) (q : α → Bool) (hl : xs.length = qs.length) (hD : H1 D = none) (hx : SqL K H1 a xs) (hn : xs.length ≤ 100000)
    (hs : ∀ (i : Nat) (x : V) (y : α) (H : Hp) (Kt : V → Hp → Prop) (Kf : Hp → Prop), xs[i]? = some x → qs[i]? = some y → Same H1 H → (q y = true → ∀ H4, Same H H4 → Kt (f y) H4) → (q y = false → ∀ H4, Same H H4 → Kf H4) → LcT g tt te vs σ x H Kt Kf)
    (hd : ∀ H, Same H1 H → H D = some (.lst ((qs.filter q).map f)) → Qd H) : LcG (Itl K a) g tt te vs σ H1 D Qd :=
  lcLq (ysF f q qs) hD hx hn (fun i x H Kt Kf hxi s qq => by
    have hi := (List.getElem?_eq_some_iff.mp hxi).1
    have hy : qs[i]? = some qs[i] := List.getElem?_eq_getElem (by omega)
    exact hs i x _ H Kt Kf hxi hy s (fun e H4 s4 => qq.yes _ _ s4 (by unfold ysF; rw [hy]; exact if_pos e)) (fun e H4 s4 => qq.no _ s4 (by unfold ysF; rw [hy]; exact if_neg (by rw [e]; simp))))
    (fun H s h => hd H s (by rw [h, hl, ysF_all]))
/-- over zip, by places -/
theorem lcZf {xs zs : List V} {n : Nat} (X Z f : Nat → V) (q : Nat → Bool) (lx : xs.length = n) (lz : zs.length = n) (hX : ∀ i, i < n → xs[i]? = some (X i)) (hZ : ∀ i, i < n → zs[i]? = some (Z i)) (hD : H1 D = none) (hx : SqL K H1 a xs) (hz : SqL K H1 b zs) (hn : n ≤ 100000)
    (hs : ∀ (i : Nat) (T : Addr) (H : Hp) (Kt : V → Hp → Prop) (Kf : Hp → Prop), i < n → Same H1 H → H T = some (.tup [X i, Z i]) → (q i = true → ∀ H4, Same H H4 → Kt (f i) H4) → (q i = false → ∀ H4, Same H H4 → Kf H4) → LcT g tt te vs σ (.ref T) H Kt Kf)
    (hd : ∀ H, Same H1 H → H D = some (.lst (((List.range n).filter q).map f)) → Qd H) : LcG (Itz K a b) g tt te vs σ H1 D Qd :=
  lcZq (xs := xs) (zs := zs) (ysF f q (List.range n)) (by rw [lx, lz]) hD hx hz (by omega) (fun i x z T H Kt Kf hxi hzi s gT qq => by
    have hi : i < n := by have := (List.getElem?_eq_some_iff.mp hxi).1; omega
    rw [hX i hi] at hxi
    rw [hZ i hi] at hzi
    cases hxi
    cases hzi
    exact hs i T H Kt Kf hi s gT (fun e H4 s4 => qq.yes _ _ s4 (by unfold ysF; rw [range_get hi]; exact if_pos e)) (fun e H4 s4 => qq.no _ s4 (by unfold ysF; rw [range_get hi]; exact if_neg (by rw [e]; simp))))
    (fun H s h => hd H s (by have := ysF_all f q (List.range n); rw [List.length_range] at this; rw [h, lx, this]))
theorem lcZm {xs zs : List V} {n : Nat} (X Z f : Nat → V) (lx : xs.length = n) (lz : zs.length = n) (hX : ∀ i, i < n → xs[i]? = some (X i)) (hZ : ∀ i, i < n → zs[i]? = some (Z i)) (hD : H1 D = none) (hx : SqL K H1 a xs) (hz : SqL K H1 b zs) (hn : n ≤ 100000)
    (hs : ∀ (i : Nat) (T : Addr) (H : Hp) (Kt : V → Hp → Prop) (Kf : Hp → Prop), i < n → Same H1 H → H T = some (.tup [X i, Z i]) → (∀ H4, Same H H4 → Kt (f i) H4) → LcT g tt te vs σ (.ref T) H Kt Kf)
    (hd : ∀ H, Same H1 H → H D = some (.lst ((List.range n).map f)) → Qd H) : LcG (Itz K a b) g tt te vs σ H1 D Qd :=
  lcZf X Z f (fun _ => true) lx lz hX hZ hD hx hz hn (fun i T H Kt Kf hi s gT h _ => hs i T H Kt Kf hi s gT (h rfl)) (fun H s h => hd H s (by rw [h, List.filter_eq_self.mpr fun _ _ => rfl]))
/-- over a list, by places -/
theorem lcLxf {xs : List V} (f : Nat → V) (q : Nat → Bool) (hD : H1 D = none) (hx : SqL K H1 a xs) (hn : xs.length ≤ 100000)
    (hs : ∀ (i : Nat) (x : V) (H : Hp) (Kt : V → Hp → Prop) (Kf : Hp → Prop), xs[i]? = some x → Same H1 H → (q i = true → ∀ H4, Same H H4 → Kt (f i) H4) → (q i = false → ∀ H4, Same H H4 → Kf H4) → LcT g tt te vs σ x H Kt Kf)
    (hd : ∀ H, Same H1 H → H D = some (.lst (((List.range xs.length).filter q).map f)) → Qd H) : LcG (Itl K a) g tt te vs σ H1 D Qd :=
  lcLq (ysF f q (List.range xs.length)) hD hx hn (fun i x H Kt Kf hxi s qq => by
    have hi := (List.getElem?_eq_some_iff.mp hxi).1
    exact hs i x H Kt Kf hxi s (fun e H4 s4 => qq.yes _ _ s4 (by unfold ysF; rw [range_get hi]; exact if_pos e)) (fun e H4 s4 => qq.no _ s4 (by unfold ysF; rw [range_get hi]; exact if_neg (by rw [e]; simp))))
    (fun H s h => hd H s (by have := ysF_all f q (List.range xs.length); rw [List.length_range] at this; rw [h, this]))
theorem lcLx {xs : List V} (f : Nat → V) (hD : H1 D = none) (hx : SqL K H1 a xs) (hn : xs.length ≤ 100000)
    (hs : ∀ (i : Nat) (x : V) (H : Hp) (Kt : V → Hp → Prop) (Kf : Hp → Prop), xs[i]? = some x → Same H1 H → (∀ H4, Same H H4 → Kt (f i) H4) → LcT g tt te vs σ x H Kt Kf)
    (hd : ∀ H, Same H1 H → H D = some (.lst ((List.range xs.length).map f)) → Qd H) : LcG (Itl K a) g tt te vs σ H1 D Qd :=
  lcLxf f (fun _ => true) hD hx hn (fun i x H Kt Kf hx s h _ => hs i x H Kt Kf hx s (h rfl)) (fun H s h => hd H s (by rw [h, List.filter_eq_self.mpr fun _ _ => rfl]))
end
theorem all_true (n : Nat) : ((List.range n).map fun _ => true).all id = true := by simp
theorem bls (n : Nat) (f : Nat → Bool) : (List.range n).map (fun i => V.bl (f i)) = ((List.range n).map f).map V.bl := by rw [List.map_map]; rfl
/-- isinstance(x, (T1, T2)) of plain things -/
def rIs2 (T1 T2 : String) (ans : V → String → Bool) : List V → Hp → VK → Prop := fun xs H Q => ∃ (x : V) (tp : Addr) (t : String), xs = [x, .ref tp] ∧ Ty7 H x t ∧ H tp = some (.tup [.ty T1, .ty T2]) ∧ Q (.bl (ans x t)) H
theorem call_isTy2 {X : Cx} (T1 T2 : String) (a1 a2 : V → String → Bool) (h1 : ∀ H x t, Ty7 H x t → kitB t T1 = some (a1 x t)) (h2 : ∀ H x t, Ty7 H x t → kitB t T2 = some (a2 x t)) : CallR X (.builtin "isinstance") (rIs2 T1 T2 fun x t => a1 x t || a2 x t) :=
  callR_imp call_isiT fun _ H Q ⟨x, tp, t, e, ht, hp, q⟩ => ⟨x, tp, [.ty T1, .ty T2], _, [.type T1, .type T2], _, e, hp, .cons (.ty _) (.cons (.ty _) .nil), ht.tx, kitAny_cons (b := a1 x t) (kit_ty (h1 H x t ht)) (fun e1 => kitAny_cons (b := a2 x t) (kit_ty (h2 H x t ht)) (fun e2 => by simp only [e1, e2]; rfl) (fun e2 => by simp only [e1, e2]; rfl)) (fun e1 => by simp only [e1]; rfl), q⟩
theorem is_strtup {X : Cx} : CallR X (.builtin "isinstance") (rIs2 "str" "tuple" fun _ t => decide (t = "str") || decide (t = "tuple")) := call_isTy2 _ _ (fun _ t => decide (t = "str")) (fun _ t => decide (t = "tuple")) (fun _ _ _ h => h.ks) (fun _ _ _ h => h.kt)
/-- a list or a tuple -/
def SqE (K : PySem.W.Frag) (H : Hp) (a : Addr) (xs : List V) : Prop := SqL K H a xs ∨ SqT K H a xs
theorem SqE.same {K : PySem.W.Frag} {H H' : Hp} {a : Addr} {xs : List V} (h : SqE K H a xs) (s : Same H H') : SqE K H' a xs := h.imp (fun h => s.seq h) (fun h => Same.seqT s h)
theorem But.seqT {K : PySem.W.Frag} {H H' : Hp} {a b : Addr} {xs : List V} (e : But a H H') (n : b ≠ a) (h : SqT K H b xs) : SqT K H' b xs := by
  rcases h with (h | ⟨o, h⟩) | h
  · exact .inl (.inl (e _ _ n h))
  · exact .inl (.inr ⟨o, e _ _ n h⟩)
  · exact .inr h
theorem SqE.but {K : PySem.W.Frag} {H H' : Hp} {a b : Addr} {xs : List V} (h : SqE K H b xs) (e : But a H H') (n : b ≠ a) : SqE K H' b xs := h.imp (fun h => e.seq n h) (fun h => e.seqT n h)
theorem ixE {K : PySem.W.Frag} {H : Hp} {a : Addr} {xs : List V} {i : Int} {v : V} {Q : VK} (h : SqE K H a xs) (e : atI xs i = some v) (q : Q v H) : rIx K (.ref a) (.int i) H Q := by
  rcases h with h | h
  · exact .inl ⟨_, _, _, _, rfl, rfl, h, e, q⟩
  · exact .inr (.inl ⟨_, _, _, _, rfl, rfl, h, e, q⟩)
theorem atI_add {xs : List V} {f i : Nat} {v : V} (h : xs[f + i]? = some v) : atI xs ((f : Int) + (i : Int)) = some v := by
  rw [← Int.natCast_add]; exact atI_nat h
theorem pick_list {α : Type} {P : V → α → Prop} : ∀ (us : List V), (∀ (i : Nat) (v : V), us[i]? = some v → ∃ t, P v t) → ∃ ts : List α, us.length = ts.length ∧ ∀ (i : Nat) (v : V) (t : α), us[i]? = some v → ts[i]? = some t → P v t
  | [], _ => ⟨[], rfl, fun i v t h => by simp at h⟩
  | u :: us, h => by
    obtain ⟨t, ht⟩ := h 0 u rfl
    obtain ⟨ts, hl, hts⟩ := pick_list us fun i v hv => h (i + 1) v hv
    refine ⟨t :: ts, by rw [List.length_cons, List.length_cons, hl], fun i v t' hv ht' => ?_⟩
    cases i with
    | zero => cases hv; cases ht'; exact ht
    | succ i => exact hts i v t' hv ht'
end My

open PySem L2 My
/-! ### short steps -/
local macro_rules | `(tactic| tm_at "hp") => `(tactic| first
  | with_reducible assumption
  | exact upd_same
  | (with_reducible refine upd_keep ?hpn ?hpr; (case hpn => with_reducible assumption); (case hpr => tm_at "hp"))
  | (refine Eq.trans (upd_ne ?hpn) ?hpr; (case hpn => tm_at "ne"); (case hpr => tm_at "hp"))
  | (refine' Same.app ?hps ?hpr; (case hps => with_reducible assumption); (case hpr => tm_at "hp"))
  | (refine' Dr.app ?hps ?hpn ?hpr; (case hps => with_reducible assumption); (case hpr => tm_at "hp"); (case hpn => tm_at "ne"))
  | (refine' But.app ?hps ?hpn ?hpr; (case hps => with_reducible assumption); (case hpr => tm_at "hp"); (case hpn => tm_at "ne")))
local macro_rules | `(tactic| tm_at "ne") => `(tactic| first
  | with_reducible assumption
  | (with_reducible refine Ne.symm ?nes; (case nes => with_reducible assumption))
  | (refine' ne_of_none ?nea ?neb; (case neb => with_reducible assumption); (case nea => tm_at "hp"))
  | (refine' Src.ne ?nea ?neb; (case neb => with_reducible assumption); (case nea => tm_at "sr"))
  | (refine' Ne.symm (Src.ne ?nea ?neb); (case neb => with_reducible assumption); (case nea => tm_at "sr"))
  | (refine' Ne.symm (ne_of_none ?nea ?neb); (case neb => with_reducible assumption); (case nea => tm_at "hp")))
/-- a list, a tuple that stands -/
local macro_rules | `(tactic| tm_at "sql") => `(tactic| first
  | with_reducible assumption
  | (refine sqL ?sqa; (case sqa => tm_at "hp"))
  | (refine' Same.seq ?sqs ?sqa; (case sqs => with_reducible assumption); (case sqa => tm_at "sql"))
  | (refine' Dr.seq ?sqs ?sqn ?sqa; (case sqs => with_reducible assumption); (case sqa => tm_at "sql"); (case sqn => tm_at "ne"))
  | (refine' But.seq ?sqs ?sqn ?sqa; (case sqs => with_reducible assumption); (case sqa => tm_at "sql"); (case sqn => tm_at "ne")))
/-- all but a stands; all stands -/
local macro_rules | `(tactic| tm_at "bt") => `(tactic| first
  | with_reducible assumption
  | with_reducible exact But.refl
  | (with_reducible refine But.upd ?btx; (case btx => tm_at "bt"))
  | (with_reducible refine But.new ?btx ?bty; (case bty => with_reducible assumption); (case btx => tm_at "bt"))
  | (refine' But.trans ?btx ?bty; (case bty => with_reducible assumption); (case btx => tm_at "bt"))
  | (refine' But.trans ?btx (Same.but ?bty); (case bty => with_reducible assumption); (case btx => tm_at "bt")))
local macro_rules | `(tactic| tm_at "sm") => `(tactic| first
  | with_reducible assumption
  | with_reducible exact Same.refl _
  | (with_reducible refine Same.new ?btx ?bty; (case bty => with_reducible assumption); (case btx => tm_at "sm"))
  | (with_reducible refine Same.mut ?btx ?bty; (case bty => with_reducible assumption); (case btx => tm_at "sm"))
  | (refine' Same.mut' ?btx ?bty ?btn; (case bty => with_reducible assumption); (case btx => tm_at "sm"); (case btn => tm_at "fr"))
  | (refine' Same.trans ?btx ?bty; (case bty => with_reducible assumption); (case btx => tm_at "sm")))
/-- the source stands; draws from there to here -/
local macro_rules | `(tactic| tm_at "sr") => `(tactic| first
  | with_reducible assumption
  | (refine' Dr.s ?srd; (case srd => with_reducible assumption))
  | (refine' Src.same ?srh ?srd; (case srd => with_reducible assumption); (case srh => tm_at "sr"))
  | (refine' Src.but ?srh ?srd ?srn; (case srd => with_reducible assumption); (case srh => tm_at "sr"); (case srn => tm_at "ne")))
local macro_rules | `(tactic| tm_at "dr") => `(tactic| first
  | with_reducible assumption
  | (refine' Dr.trans ?drx ?dry; (case dry => with_reducible assumption); (case drx => tm_at "dr"))
  | (refine' Dr.same ?drx ?dry; (case dry => with_reducible assumption); (case drx => tm_at "dr"))
  | (refine' Dr.mut ?drx ?dry ?drn ?drm; (case dry => with_reducible assumption); (case drx => tm_at "dr"); (case drn => tm_at "fr"); (case drm => tm_at "ne"))
  | (refine' Dr.of ?drx ?dry; (case drx => tm_at "sr"); (case dry => tm_at "sm"))
  | (refine Dr.refl ?drx; (case drx => tm_at "sr")))
/-- nothing stood there -/
local macro_rules | `(tactic| tm_at "fr") => `(tactic| first
  | with_reducible assumption
  | (refine' Same.free ?frs ?frh; (case frh => with_reducible assumption); (case frs => tm_at "sm"))
  | (refine' Dr.free ?frs ?frh ?frn; (case frh => with_reducible assumption); (case frs => tm_at "dr"); (case frn => tm_at "ne")))
/-- an int's condition -/
local macro_rules | `(tactic| tm_at "ic") => `(tactic| first
  | assumption
  | omega
  | exact Nat.le_of_ble_eq_true rfl
  | exact ⟨by decide, by decide +kernel⟩
  | exact Or.inr ⟨by omega, by omega⟩
  | exact Or.inl ⟨by omega, by omega⟩
  | exact Or.inr ⟨by decide, by decide⟩
  | exact ⟨by decide, by decide, by decide⟩
  | exact wide_div (b := 64) (by omega) (by omega) (by decide) (by decide)
  | decide
  | tm_at "sr")
/-- a plain thing's kind -/
local macro_rules | `(tactic| tm_at "t7") => `(tactic| first
  | with_reducible assumption
  | with_reducible exact Ty7.int _
  | with_reducible exact Ty7.bl _
  | with_reducible exact Ty7.non
  | with_reducible exact Ty7.str _
  | (refine' Ty7.lst ?t7h; (case t7h => tm_at "hp"))
  | (refine' Ty7.tup ?t7h; (case t7h => tm_at "hp")))
/-- one step of a reading -/
local macro_rules | `(tactic| tm_at "rd") => `(tactic| first
  | refine ⟨_, rfl, ?_⟩
  | refine ⟨_, _, rfl, rfl, ?_⟩
  | (refine And.intro ?rdc ?_; (case rdc => (first | tm_at "ic" | (dsimp only; tm_at "ic"))))
  | refine ⟨_, _, rfl, ?_⟩
  | refine ⟨rfl, ?_⟩
  | (refine' ⟨_, _, rfl, ?rd7, ?_⟩; (case rd7 => tm_at "t7"))
  | (refine' ⟨_, _, rfl, Or.inl ⟨_, ?rdl, rfl⟩, ?_⟩; (case rdl => tm_at "sql"))
  | refine Or.inl ⟨_, rfl, ?_⟩
  | refine Or.inr ⟨_, rfl, ?_⟩)
local macro_rules | `(tactic| tm_at "rds") => `(tactic| repeat (tm_at "rd"))
/-- a tuple that stands -/
local macro_rules | `(tactic| tm_at "sqt") => `(tactic| first
  | with_reducible assumption
  | (refine sqT ?sqa; (case sqa => tm_at "hp"))
  | (refine' Same.seqT ?sqs ?sqa; (case sqs => with_reducible assumption); (case sqa => tm_at "sqt"))
  | (refine' Dr.seqT ?sqs ?sqn ?sqa; (case sqs => with_reducible assumption); (case sqa => tm_at "sqt"); (case sqn => tm_at "ne")))
/-- more steps: tests that are plain, items by a plain index, the length of a tuple -/
local macro_rules | `(tactic| tm_at "rz") => `(tactic| first
  | (refine' And.intro (Or.inl (And.intro rfl (Exists.intro _ ?rzt))) ?_; (case rzt => tm_at "sql"))
  | tm_at "rd"
  | (refine' ⟨_, _, rfl, Or.inr ⟨_, ?rdl, rfl⟩, ?_⟩; (case rdl => tm_at "sqt"))
  | (refine' ⟨_, _, _, _, rfl, rfl, ?rzl, ?rzi, ?_⟩; (case rzl => (first | tm_at "sql" | tm_at "sqt")); (case rzi => exact rfl))
  | (refine iteF' ?rzb ?_; (case rzb => (first | with_reducible rfl | rfl | decide)))
  | (refine iteT' ?rzb ?_; (case rzb => (first | with_reducible rfl | rfl | decide))))
local macro_rules | `(tactic| tm_at "rzs") => `(tactic| repeat (tm_at "rz"))
/-- .. up to an if that has something behind it -/
local macro_rules | `(tactic| tm_at "rzi") => `(tactic| repeat ((try dsimp only [gName]); (fail_if_success (with_reducible refine isIf ?_)); tm_at "rz"))
/-! ### totals dealt by caps and weights: plain mathematics -/
namespace My
open PySem L2
/-- the sum of f over some places -/
def S (f : Nat → Int) (R : List Nat) : Int := (R.map f).sum
theorem S_nil (f : Nat → Int) : S f [] = 0 := rfl
theorem S_cons (f : Nat → Int) (i : Nat) (R : List Nat) : S f (i :: R) = f i + S f R := by unfold S; rw [List.map_cons, List.sum_cons]
theorem S_append (f : Nat → Int) (R T : List Nat) : S f (R ++ T) = S f R + S f T := by unfold S; rw [List.map_append, List.sum_append]
theorem S_nonneg {f : Nat → Int} : ∀ {R : List Nat}, (∀ i ∈ R, 0 ≤ f i) → 0 ≤ S f R
  | [], _ => Int.le_refl 0
  | i :: R, h => by
    rw [S_cons]
    have h1 := h i (List.mem_cons_self ..)
    have h2 := S_nonneg (R := R) fun j hj => h j (List.mem_cons_of_mem _ hj)
    omega
theorem S_le {f g : Nat → Int} : ∀ {R : List Nat}, (∀ i ∈ R, f i ≤ g i) → S f R ≤ S g R
  | [], _ => Int.le_refl 0
  | i :: R, h => by
    rw [S_cons, S_cons]
    have h1 := h i (List.mem_cons_self ..)
    have h2 := S_le (R := R) fun j hj => h j (List.mem_cons_of_mem _ hj)
    omega
theorem S_lt {f g : Nat → Int} : ∀ {R : List Nat}, (∀ i ∈ R, f i < g i) → R ≠ [] → S f R < S g R
  | [], _, h => absurd rfl h
  | i :: R, h, _ => by
    rw [S_cons, S_cons]
    have h1 := h i (List.mem_cons_self ..)
    have h2 := S_le (R := R) fun j hj => Int.le_of_lt (h j (List.mem_cons_of_mem _ hj))
    omega
theorem S_congr {f g : Nat → Int} : ∀ {R : List Nat}, (∀ i ∈ R, f i = g i) → S f R = S g R
  | [], _ => rfl
  | i :: R, h => by
    rw [S_cons, S_cons, h i (List.mem_cons_self ..), S_congr (R := R) fun j hj => h j (List.mem_cons_of_mem _ hj)]
theorem S_mul (c : Int) (f : Nat → Int) : ∀ R : List Nat, S (fun i => c * f i) R = c * S f R
  | [] => (Int.mul_zero c).symm
  | i :: R => by rw [S_cons, S_cons, S_mul c f R, Int.mul_add]
theorem S_mul_r (c : Int) (f : Nat → Int) : ∀ R : List Nat, S (fun i => f i * c) R = S f R * c
  | [] => (Int.zero_mul c).symm
  | i :: R => by rw [S_cons, S_cons, S_mul_r c f R, Int.add_mul]
theorem S_split (f : Nat → Int) (p : Nat → Bool) : ∀ R : List Nat, S f R = S f (R.filter p) + S f (R.filter fun i => !p i)
  | [] => rfl
  | i :: R => by
    rw [S_cons, S_split f p R, List.filter_cons, List.filter_cons]
    cases h : p i with
    | true => simp only [Bool.not_true, if_true, Bool.false_eq_true, if_false]; rw [S_cons]; omega
    | false => simp only [Bool.not_false, if_true, Bool.false_eq_true, if_false]; rw [S_cons]; omega
theorem S_bound {f : Nat → Int} {c : Int} : ∀ {R : List Nat}, (∀ i ∈ R, f i ≤ c) → S f R ≤ c * R.length
  | [], _ => by simp [S_nil]
  | i :: R, h => by
    rw [S_cons, List.length_cons]
    have h1 := h i (List.mem_cons_self ..)
    have h2 := S_bound (R := R) fun j hj => h j (List.mem_cons_of_mem _ hj)
    have e : c * ((R.length + 1 : Nat) : Int) = c * R.length + c := by rw [Int.natCast_add, Int.mul_add]; simp
    omega
abbrev natsV (ch : List Nat) : List V := ch.map fun i : Nat => V.int (i : Int)
def wAt (ws : List Int) (i : Nat) : Int := ws.getD i 0
/-! #### the level -/
/-- what the removed ones keep: cap ≤ level times weight, while the level T / W only rises -/
theorem rise {T W C V : Int} (hW : 0 < W) (hC : C * W ≤ T * V) : T * (W - V) ≤ (T - C) * W := by
  rw [Int.mul_sub, Int.sub_mul]; omega
theorem keep_cap {c w T W T' W' : Int} (hW : 0 < W) (hw : 0 ≤ w) (hW' : 0 ≤ W') (h : c * W ≤ T * w) (hr : T * W' ≤ T' * W) : c * W' ≤ T' * w := by
  have h1 : c * W * W' ≤ T * w * W' := Int.mul_le_mul_of_nonneg_right h hW'
  have h2 : T * W' * w ≤ T' * W * w := Int.mul_le_mul_of_nonneg_right hr hw
  have e1 : c * W * W' = c * W' * W := by rw [Int.mul_assoc, Int.mul_comm W W', ← Int.mul_assoc]
  have e2 : T * w * W' = T * W' * w := by rw [Int.mul_assoc, Int.mul_comm w W', ← Int.mul_assoc]
  have e3 : T' * W * w = T' * w * W := by rw [Int.mul_assoc, Int.mul_comm W w, ← Int.mul_assoc]
  exact Int.le_of_mul_le_mul_right (by rw [← e1, ← e3]; omega) hW
/-- behind the rest: what is weighed so far -/
def pre (w : Nat → Int) (p : Nat → Bool) : Nat → Int
  | 0 => 0
  | i + 1 => pre w p i + if p i then w i else 0
/-- what one gets by running sums -/
def part (t b beh w : Int) : Int := t * (beh + w) / b - t * beh / b
/-- the pairs that running tells -/
def runD (t b : Int) (w : Nat → Int) : List Nat → Int → List (Nat × Int)
  | [], _ => []
  | i :: r, beh => (i, part t b beh (w i)) :: runD t b w r (beh + w i)
theorem runD_append (t b : Int) (w : Nat → Int) (i : Nat) : ∀ (l : List Nat) (beh : Int), runD t b w (l ++ [i]) beh = runD t b w l beh ++ [(i, part t b (beh + S w l) (w i))]
  | [], beh => by simp [runD, S_nil]
  | j :: l, beh => by
    rw [List.cons_append]
    simp only [runD]
    rw [runD_append t b w i l (beh + w j), S_cons, Int.add_assoc, List.cons_append]
theorem runD_fst (t b : Int) (w : Nat → Int) : ∀ (l : List Nat) (beh : Int), (runD t b w l beh).map (·.1) = l
  | [], _ => rfl
  | i :: l, beh => by simp only [runD, List.map_cons]; rw [runD_fst t b w l]
theorem pre_eq (w : Nat → Int) (p : Nat → Bool) : ∀ n, pre w p n = S w ((List.range n).filter p)
  | 0 => rfl
  | n + 1 => by
    rw [List.range_succ, List.filter_append, S_append, ← pre_eq w p n]
    simp only [pre, List.filter_cons, List.filter_nil]
    cases p n <;> simp [S_cons, S_nil]
theorem runD_range (t b : Int) (w : Nat → Int) (p : Nat → Bool) : ∀ n, ∀ q ∈ runD t b w ((List.range n).filter p) 0, p q.1 = true ∧ q.1 < n ∧ q.2 = part t b (pre w p q.1) (w q.1)
  | 0, q, h => by simp [runD] at h
  | n + 1, q, h => by
    rw [List.range_succ, List.filter_append] at h
    cases hp : p n with
    | false =>
      rw [List.filter_cons, hp] at h
      simp only [Bool.false_eq_true, if_false, List.filter_nil, List.append_nil] at h
      obtain ⟨h1, h2, h3⟩ := runD_range t b w p n q h
      exact ⟨h1, by omega, h3⟩
    | true =>
      rw [List.filter_cons, hp] at h
      simp only [if_true, List.filter_nil] at h
      rw [runD_append] at h
      rcases List.mem_append.mp h with h | h
      · obtain ⟨h1, h2, h3⟩ := runD_range t b w p n q h
        exact ⟨h1, by omega, h3⟩
      · simp only [List.mem_singleton] at h
        subst h
        exact ⟨hp, by simp, by simp [pre_eq]⟩
/-- found, set by pairs -/
def putAll (f : List Int) (ps : List (Nat × Int)) : List Int := ps.foldl (fun f q => f.set q.1 q.2) f
theorem putAll_len : ∀ (ps : List (Nat × Int)) (f : List Int), (putAll f ps).length = f.length
  | [], _ => rfl
  | q :: ps, f => by
    show (putAll (f.set q.1 q.2) ps).length = _
    rw [putAll_len ps, List.length_set]
theorem putAll_out {i : Nat} : ∀ (ps : List (Nat × Int)) (f : List Int), i ∉ ps.map (·.1) → (putAll f ps)[i]? = f[i]?
  | [], _, _ => rfl
  | q :: ps, f, h => by
    show (putAll (f.set q.1 q.2) ps)[i]? = _
    rw [List.map_cons, List.mem_cons, not_or] at h
    rw [putAll_out ps _ h.2, List.getElem?_set_ne (fun e => h.1 e.symm)]
theorem putAll_in {g : Nat → Int} {i : Nat} : ∀ (ps : List (Nat × Int)) (f : List Int), (∀ q ∈ ps, q.2 = g q.1) → i ∈ ps.map (·.1) → i < f.length → (putAll f ps)[i]? = some (g i)
  | [], _, _, h, _ => by simp at h
  | q :: ps, f, hg, h, hl => by
    show (putAll (f.set q.1 q.2) ps)[i]? = _
    by_cases hm : i ∈ ps.map (·.1)
    · exact putAll_in ps _ (fun r hr => hg r (List.mem_cons_of_mem _ hr)) hm (by rw [List.length_set]; exact hl)
    · rw [putAll_out ps _ hm]
      rw [List.map_cons, List.mem_cons] at h
      rcases h with e | h
      · subst e
        rw [List.getElem?_set_self hl, hg q (List.mem_cons_self ..)]
      · exact absurd h hm
/-! #### the spec, and the loop -/
def capN (cap : Nat → Option Int) (i : Nat) : Int := (cap i).getD 0
/-- who has weight -/
def wtd (n : Nat) (w : Nat → Int) : List Nat := (List.range n).filter fun i => decide (0 < w i)
/-- the cap is no more than level times weight -/
def heldB (t b : Int) (w : Nat → Int) (cap : Nat → Option Int) (i : Nat) : Bool := match cap i with
  | some c => decide (c * b ≤ t * w i)
  | none => false
/-- who is dealt to by the level -/
def restB (t b : Int) (w : Nat → Int) (cap : Nat → Option Int) (i : Nat) : Bool := decide (0 < w i) && !heldB t b w cap i
def less (c : Option Int) (b x : Int) : Int := match c with
  | some c => min (c * b) x
  | none => x
structure Dealt (n : Nat) (w : Nat → Int) (cap : Nat → Option Int) (total : Int) (lv : Option (Int × Int)) (fs : List Int) : Prop where
  len : fs.length = n
  zero : ∀ i, i < n → w i ≤ 0 → fs[i]? = some 0
  non : lv = none → (∀ i, i < n → 0 < w i → ∃ c, cap i = some c ∧ fs[i]? = some c) ∧ S (capN cap) (wtd n w) ≤ total
  lev : ∀ t b, lv = some (t, b) → 0 ≤ t ∧ 0 < b ∧ Int.gcd t b = 1 ∧ ¬ ((∀ i, i < n → 0 < w i → (cap i).isSome = true) ∧ S (capN cap) (wtd n w) ≤ total) ∧
    S (fun i => less (cap i) b (t * w i)) (wtd n w) = total * b ∧
    ∀ i, i < n → 0 < w i → fs[i]? = some (if heldB t b w cap i then capN cap i else part t b (pre w (restB t b w cap) i) (w i))
/-- between two turns: who is left (p), what is left (T) -/
structure DI (n : Nat) (w : Nat → Int) (cap : Nat → Option Int) (total : Int) (p : Nat → Bool) (T : Int) (f : List Int) : Prop where
  len : f.length = n
  pw : ∀ i, i < n → p i = true → 0 < w i
  tn : 0 ≤ T
  out : ∀ i, i < n → 0 < w i → p i = false → ∃ c, cap i = some c ∧ f[i]? = some c ∧ c * S w ((List.range n).filter p) ≤ T * w i
  yet : ∀ i, i < n → (p i = true ∨ w i ≤ 0) → f[i]? = some 0
  sum : T + S (capN cap) ((List.range n).filter fun i => decide (0 < w i) && !p i) = total
section
variable {n : Nat} {w : Nat → Int} {cap : Nat → Option Int} {total T : Int} {p : Nat → Bool} {f : List Int}
theorem filter_congr' {q r : Nat → Bool} {l : List Nat} (h : ∀ i ∈ l, q i = r i) : l.filter q = l.filter r := List.filter_congr h
theorem DI.start (h0 : 0 ≤ total) : DI n w cap total (fun i => decide (0 < w i)) total (List.replicate n 0) := by
  refine ⟨List.length_replicate, fun i _ h => of_decide_eq_true h, h0, fun i _ h1 h2 => absurd h1 (of_decide_eq_false h2), fun i hi _ => by rw [List.getElem?_replicate, if_pos hi], ?_⟩
  have e : ((List.range n).filter fun i => decide (0 < w i) && !decide (0 < w i)) = [] := by
    rw [List.filter_eq_nil_iff]
    intro i _
    cases decide (0 < w i) <;> simp
  rw [e, S_nil]; omega
/-- nobody is left -/
theorem DI.fin0 (d : DI n w cap total p T f) (he : (List.range n).filter p = []) : Dealt n w cap total none f := by
  have hp : ∀ i, i < n → p i = false := fun i hi => by
    have := List.filter_eq_nil_iff.mp he i (List.mem_range.mpr hi)
    simpa using this
  refine ⟨d.len, fun i hi h => d.yet i hi (.inr h), fun _ => ⟨fun i hi h => ?_, ?_⟩, fun t b h => by cases h⟩
  · obtain ⟨c, h1, h2, _⟩ := d.out i hi h (hp i hi)
    exact ⟨c, h1, h2⟩
  · have e : wtd n w = ((List.range n).filter fun i => decide (0 < w i) && !p i) := filter_congr' fun i hi => by
      rw [hp i (List.mem_range.mp hi)]; simp
    rw [e]
    have := d.sum
    have := d.tn
    omega
/-- who has no more than level times weight as a cap -/
def fullB (T W : Int) (w : Nat → Int) (cap : Nat → Option Int) (i : Nat) : Bool := heldB T W w cap i
theorem S_pos {R : List Nat} (h : ∀ i ∈ R, 0 < w i) (hne : R ≠ []) : 0 < S w R := by
  have := S_lt (f := fun _ => 0) (g := w) h hne
  have e : S (fun _ => 0) R = 0 := by
    have : ∀ R : List Nat, S (fun _ => 0) R = 0 := fun R => by
      induction R with
      | nil => rfl
      | cons i R ih => rw [S_cons, ih]; rfl
    exact this R
  omega
theorem heldB_some {t b : Int} {i : Nat} (h : heldB t b w cap i = true) : ∃ c, cap i = some c ∧ c * b ≤ t * w i := by
  unfold heldB at h
  cases e : cap i with
  | none => rw [e] at h; cases h
  | some c => rw [e] at h; exact ⟨c, rfl, of_decide_eq_true h⟩
theorem heldB_iff {t b c : Int} {i : Nat} (e : cap i = some c) : heldB t b w cap i = decide (c * b ≤ t * w i) := by
  unfold heldB
  rw [e]
theorem filter_and (q r : Nat → Bool) (l : List Nat) : (l.filter q).filter r = l.filter fun i => q i && r i := by
  rw [List.filter_filter]
  exact List.filter_congr fun i _ => by rw [Bool.and_comm]
/-- one turn -/
theorem DI.turn (d : DI n w cap total p T f) (W : Int) (hW : W = S w ((List.range n).filter p)) (hne : (List.range n).filter p ≠ []) (full : List Nat) (hfull : full = ((List.range n).filter p).filter (heldB T W w cap)) :
    DI n w cap total (fun i => p i && !heldB T W w cap i) (T - S (capN cap) full) (putAll f (full.map fun i => (i, capN cap i))) := by
  have hpos : ∀ i ∈ (List.range n).filter p, 0 < w i := fun i hi => by
    obtain ⟨h1, h2⟩ := List.mem_filter.mp hi
    exact d.pw i (List.mem_range.mp h1) h2
  have W0 : 0 < W := by rw [hW]; exact S_pos hpos hne
  have mfull : ∀ i, i ∈ full ↔ (i < n ∧ p i = true) ∧ heldB T W w cap i = true := fun i => by
    rw [hfull, List.mem_filter, List.mem_filter, List.mem_range]
  -- C * W ≤ T * V
  have hC : S (capN cap) full * W ≤ T * S w full := by
    rw [← S_mul_r, ← S_mul]
    refine S_le fun i hi => ?_
    obtain ⟨c, e, h⟩ := heldB_some ((mfull i).mp hi).2
    show (cap i).getD 0 * W ≤ T * w i
    rw [e]; exact h
  have hsp : W = S w full + S w ((List.range n).filter fun i => p i && !heldB T W w cap i) := by
    have e := S_split w (heldB T W w cap) ((List.range n).filter p)
    rw [← hfull, filter_and, ← hW] at e
    exact e
  have V0 : S w full ≤ W := by
    have : 0 ≤ S w ((List.range n).filter fun i => p i && !heldB T W w cap i) := S_nonneg fun i hi => by
      obtain ⟨h1, h2⟩ := List.mem_filter.mp hi
      have := d.pw i (List.mem_range.mp h1) (Bool.and_eq_true_iff.mp h2).1
      omega
    omega
  have T0 : 0 ≤ T - S (capN cap) full := by
    have h1 : T * S w full ≤ T * W := Int.mul_le_mul_of_nonneg_left V0 d.tn
    have h2 : S (capN cap) full * W ≤ T * W := Int.le_trans hC h1
    have := Int.le_of_mul_le_mul_right h2 W0
    omega
  have hr := rise W0 hC
  have eW' : W - S w full = S w ((List.range n).filter fun i => p i && !heldB T W w cap i) := by omega
  rw [eW'] at hr
  have W'0 : 0 ≤ S w ((List.range n).filter fun i => p i && !heldB T W w cap i) := by omega
  have fst : (full.map fun i => (i, capN cap i)).map (·.1) = full := by rw [List.map_map]; exact List.map_id'' (fun _ => rfl) _
  refine ⟨by rw [putAll_len]; exact d.len, fun i hi h => d.pw i hi (Bool.and_eq_true_iff.mp h).1, T0, fun i hi hw hp' => ?_, fun i hi h => ?_, ?_⟩
  · cases hp : p i with
    | false =>
      obtain ⟨c, h1, h2, h3⟩ := d.out i hi hw hp
      refine ⟨c, h1, ?_, ?_⟩
      · rw [putAll_out _ _ (by rw [fst]; intro hm; have := ((mfull i).mp hm).1.2; rw [hp] at this; cases this)]
        exact h2
      · rw [← hW] at h3
        exact keep_cap W0 (Int.le_of_lt hw) W'0 h3 hr
    | true =>
      have hh : heldB T W w cap i = true := by rw [hp] at hp'; simpa using hp'
      obtain ⟨c, e, h⟩ := heldB_some hh
      refine ⟨c, e, ?_, keep_cap W0 (Int.le_of_lt hw) W'0 h hr⟩
      have := putAll_in (g := capN cap) (i := i) (full.map fun i => (i, capN cap i)) f (fun q hq => by
        obtain ⟨j, _, e⟩ := List.mem_map.mp hq
        rw [← e]) (by rw [fst]; exact (mfull i).mpr ⟨⟨hi, hp⟩, hh⟩) (by rw [d.len]; exact hi)
      rw [this]
      show some ((cap i).getD 0) = some c
      rw [e]; rfl
  · have hn : i ∉ full := fun hm => by
      obtain ⟨⟨_, h1⟩, h2⟩ := (mfull i).mp hm
      rcases h with h | h
      · rw [h1, h2] at h; cases h
      · have := d.pw i hi h1; omega
    rw [putAll_out _ _ (by rw [fst]; exact hn)]
    refine d.yet i hi ?_
    rcases h with h | h
    · exact .inl (Bool.and_eq_true_iff.mp h).1
    · exact .inr h
  · have e1 : S (capN cap) ((List.range n).filter fun i => decide (0 < w i) && !(p i && !heldB T W w cap i)) = S (capN cap) full + S (capN cap) ((List.range n).filter fun i => decide (0 < w i) && !p i) := by
      have e := S_split (capN cap) p ((List.range n).filter fun i => decide (0 < w i) && !(p i && !heldB T W w cap i))
      rw [filter_and, filter_and] at e
      rw [e]
      congr 1
      · congr 1
        rw [hfull, filter_and]
        refine filter_congr' fun i hi => ?_
        have := d.pw i (List.mem_range.mp hi)
        cases hp : p i with
        | false => simp
        | true =>
          rw [decide_eq_true (this hp)]
          cases heldB T W w cap i <;> rfl
      · congr 1
        refine filter_congr' fun i _ => ?_
        cases p i <;> simp
    rw [e1]
    have := d.sum
    omega
/-- nobody is held any more: the level -/
theorem DI.fin1 (d : DI n w cap total p T f) (W : Int) (hW : W = S w ((List.range n).filter p)) (hne : (List.range n).filter p ≠ []) (hfull : ((List.range n).filter p).filter (heldB T W w cap) = []) {t b g : Int}
    (eT : T = t * g) (eW : W = b * g) (hg : 0 < g) (hgcd : Int.gcd t b = 1) :
    Dealt n w cap total (some (t, b)) (putAll f (runD t b w ((List.range n).filter p) 0)) := by
  have hpos : ∀ i ∈ (List.range n).filter p, 0 < w i := fun i hi => by
    obtain ⟨h1, h2⟩ := List.mem_filter.mp hi
    exact d.pw i (List.mem_range.mp h1) h2
  have W0 : 0 < W := by rw [hW]; exact S_pos hpos hne
  have b0 : 0 < b := Int.pos_of_mul_pos_right (by rw [Int.mul_comm] at eW; rw [← eW]; exact W0) hg
  have t0 : 0 ≤ t := by
    by_cases h : 0 ≤ t
    · exact h
    · have : t * g < 0 := Int.mul_neg_of_neg_of_pos (by omega) hg
      have := d.tn
      omega
  have cmp : ∀ c i, (c * W ≤ T * w i ↔ c * b ≤ t * w i) := fun c i => by
    have e1 : c * W = c * b * g := by rw [eW, Int.mul_assoc]
    have e2 : T * w i = t * w i * g := by rw [eT, Int.mul_assoc, Int.mul_comm g, ← Int.mul_assoc]
    rw [e1, e2]
    exact ⟨fun h => Int.le_of_mul_le_mul_right h hg, fun h => Int.mul_le_mul_of_nonneg_right h (Int.le_of_lt hg)⟩
  have hheld : ∀ i, heldB t b w cap i = heldB T W w cap i := fun i => by
    unfold heldB
    cases cap i with
    | none => rfl
    | some c => exact decide_eq_decide.mpr (cmp c i).symm
  have hrest : ∀ i, i < n → restB t b w cap i = p i := fun i hi => by
    unfold restB
    rw [hheld]
    cases hp : p i with
    | true =>
      have hw := d.pw i hi hp
      have hm : i ∈ (List.range n).filter p := List.mem_filter.mpr ⟨List.mem_range.mpr hi, hp⟩
      have hh := List.filter_eq_nil_iff.mp hfull i hm
      rw [decide_eq_true hw]
      simpa using hh
    | false =>
      by_cases hw : 0 < w i
      · obtain ⟨c, e, _, h⟩ := d.out i hi hw hp
        rw [← hW] at h
        rw [heldB_iff e, decide_eq_true h]
        simp
      · rw [decide_eq_false hw]; rfl
  have epre : ∀ i, i ≤ n → pre w (restB t b w cap) i = pre w p i := by
    intro i hi
    rw [pre_eq, pre_eq]
    congr 1
    exact filter_congr' fun j hj => hrest j (by have := List.mem_range.mp hj; omega)
  have hrun := runD_range t b w p n
  have fst : (runD t b w ((List.range n).filter p) 0).map (·.1) = (List.range n).filter p := runD_fst ..
  have hin : ∀ i, i < n → p i = true → (putAll f (runD t b w ((List.range n).filter p) 0))[i]? = some (part t b (pre w p i) (w i)) := fun i hi hp =>
    putAll_in (g := fun i => part t b (pre w p i) (w i)) _ f (fun q hq => (hrun q hq).2.2) (by rw [fst]; exact List.mem_filter.mpr ⟨List.mem_range.mpr hi, hp⟩) (by rw [d.len]; exact hi)
  have hout : ∀ i, i < n → p i = false → (putAll f (runD t b w ((List.range n).filter p) 0))[i]? = f[i]? := fun i hi hp =>
    putAll_out _ f (by rw [fst]; intro hm; have := (List.mem_filter.mp hm).2; rw [hp] at this; cases this)
  -- those who have weight: the removed and the rest
  have hsplit : ∀ g : Nat → Int, S g (wtd n w) = S g ((List.range n).filter p) + S g ((List.range n).filter fun i => decide (0 < w i) && !p i) := fun g => by
    have e := S_split g p (wtd n w)
    unfold wtd at e
    rw [filter_and, filter_and] at e
    unfold wtd
    rw [e]
    congr 1
    congr 1
    refine filter_congr' fun i hi => ?_
    cases hp : p i with
    | false => simp
    | true => rw [decide_eq_true (d.pw i (List.mem_range.mp hi) hp)]; rfl
  have outs : ∀ i ∈ (List.range n).filter fun i => decide (0 < w i) && !p i, ∃ c, cap i = some c ∧ c * b ≤ t * w i := fun i hi => by
    obtain ⟨h1, h2⟩ := List.mem_filter.mp hi
    rw [Bool.and_eq_true] at h2
    obtain ⟨c, e, _, h⟩ := d.out i (List.mem_range.mp h1) (of_decide_eq_true h2.1) (by simpa using h2.2)
    rw [← hW] at h
    exact ⟨c, e, (cmp c i).mp h⟩
  have ins : ∀ i ∈ (List.range n).filter p, ∀ c, cap i = some c → t * w i < c * b := fun i hi c e => by
    have hh := List.filter_eq_nil_iff.mp hfull i hi
    rw [heldB_iff e] at hh
    have h3 : ¬ c * b ≤ t * w i := fun z => hh (decide_eq_true ((cmp c i).mpr z))
    omega
  refine ⟨by rw [putAll_len]; exact d.len, fun i hi h => ?_, (fun h => by cases h), fun t' b' h => ?_⟩
  · have hp : p i = false := by
      cases hp : p i with
      | false => rfl
      | true => have := d.pw i hi hp; omega
    rw [hout i hi hp]
    exact d.yet i hi (.inr h)
  · cases h
    refine ⟨t0, b0, hgcd, fun ⟨h1, h2⟩ => ?_, ?_, fun i hi hw => ?_⟩
    · -- all have caps, and these come to more than the total
      have hlt : S (fun i => t * w i) ((List.range n).filter p) < S (fun i => capN cap i * b) ((List.range n).filter p) := S_lt (fun i hi => by
        obtain ⟨ha, hb⟩ := List.mem_filter.mp hi
        have hs := h1 i (List.mem_range.mp ha) (hpos i hi)
        obtain ⟨c, e⟩ := Option.isSome_iff_exists.mp hs
        have := ins i hi c e
        show t * w i < (cap i).getD 0 * b
        rw [e]; exact this) hne
      rw [S_mul, S_mul_r, ← hW] at hlt
      have e1 : t * W = T * b := by rw [eT, eW, Int.mul_comm b g, ← Int.mul_assoc]
      rw [e1] at hlt
      have hlt2 := Int.lt_of_mul_lt_mul_right hlt (Int.le_of_lt b0)
      rw [hsplit] at h2
      have := d.sum
      omega
    · rw [hsplit]
      have e1 : S (fun i => less (cap i) b (t * w i)) ((List.range n).filter p) = t * W := by
        rw [hW, ← S_mul]
        refine S_congr fun i hi => ?_
        cases e : cap i with
        | none => simp [less]
        | some c =>
          have := ins i hi c e
          simp only [less]
          omega
      have e2 : S (fun i => less (cap i) b (t * w i)) ((List.range n).filter fun i => decide (0 < w i) && !p i) = S (capN cap) ((List.range n).filter fun i => decide (0 < w i) && !p i) * b := by
        rw [← S_mul_r]
        refine S_congr fun i hi => ?_
        obtain ⟨c, e, h⟩ := outs i hi
        unfold capN
        rw [e]
        simp only [less, Option.getD_some]
        omega
      rw [e1, e2]
      have e3 : t * W = T * b := by rw [eT, eW, Int.mul_comm b g, ← Int.mul_assoc]
      rw [e3, ← Int.add_mul, d.sum]
    · cases hp : p i with
      | true =>
        have hr := hrest i hi
        rw [hp] at hr
        unfold restB at hr
        rw [Bool.and_eq_true] at hr
        have hh : heldB t b w cap i = false := by simpa using hr.2
        rw [hin i hi hp, hh, epre i (Nat.le_of_lt hi)]
        rfl
      | false =>
        obtain ⟨c, e, h1, h2⟩ := d.out i hi hw hp
        rw [← hW] at h2
        rw [hout i hi hp, h1, heldB_iff e, decide_eq_true ((cmp c i).mp h2)]
        unfold capN
        rw [e]; rfl
end
/-! #### lists of places, levels as values -/
theorem lcYs_range (n : Nat) (p : Nat → Bool) (ys : Nat → Option V) (h : ∀ i, i < n → ys i = if p i = true then some (.int (i : Int)) else none) : lcYs n ys = natsV ((List.range n).filter p) := by
  have key : ∀ m, m ≤ n → lcYs m ys = natsV ((List.range m).filter p) := by
    intro m
    induction m with
    | zero => intro _; rfl
    | succ m ih =>
      intro hm
      rw [lcYs_succ, ih (by omega), h m (by omega), List.range_succ, List.filter_append]
      unfold natsV
      rw [List.map_append]
      congr 1
      cases hp : p m <;> simp [hp]
  exact key n (Nat.le_refl _)
theorem rep_zero (n : Nat) : (List.replicate n [V.int 0]).flatten = (List.replicate n (0 : Int)).map V.int := by
  induction n with
  | zero => rfl
  | succ n ih => rw [List.replicate_succ, List.flatten_cons, ih, List.replicate_succ, List.map_cons]; rfl
theorem inV_nats (i : Nat) : ∀ l : List Nat, inV (.int (i : Int)) (natsV l) = decide (i ∈ l)
  | [] => by simp [inV]
  | j :: l => by
    have ih := inV_nats i l
    unfold inV at ih ⊢
    simp only [natsV, List.map_cons, List.any_cons] at ih ⊢
    rw [ih]
    have e : eqV (V.int (j : Int)) (V.int (i : Int)) = decide (j = i) := by
      by_cases hj : j = i
      · subst hj; simp [eqV]
      · have : ¬ ((j : Int) = (i : Int)) := by omega
        simp [eqV, hj, this]
    rw [e]
    by_cases hj : j = i
    · subst hj; simp
    · have : ¬ i = j := fun z => hj z.symm
      simp [hj, this]
theorem flat_nats (l : List Nat) : (natsV l).all flatV = true := by
  rw [List.all_eq_true]
  intro x hx
  obtain ⟨i, _, rfl⟩ := List.mem_map.mp hx
  rfl
def natI (l : List Nat) : List Int := l.map fun i : Nat => (i : Int)
theorem natsV_eq (l : List Nat) : (natI l).map V.int = natsV l := by unfold natI; rw [List.map_map]; rfl
theorem natI_nil {l : List Nat} : natI l = [] ↔ l = [] := by unfold natI; exact List.map_eq_nil_iff
theorem nat_of_map {l : List Nat} {i : Nat} {y : V} (h : (natsV l)[i]? = some y) : ∃ c, l[i]? = some c ∧ y = V.int (c : Int) := by
  rw [List.getElem?_map] at h
  cases e : l[i]? with
  | none => rw [e] at h; cases h
  | some c => rw [e] at h; exact ⟨c, rfl, (Option.some.inj h).symm⟩
theorem int_at {ws : List Int} {c : Nat} (h : c < ws.length) : (ws.map V.int)[c]? = some (.int (wAt ws c)) := by
  rw [List.getElem?_map, List.getElem?_eq_getElem h]
  unfold wAt
  rw [List.getD_eq_getElem?_getD, List.getElem?_eq_getElem h]; rfl
def cAt (cs : List (Option Int)) (i : Nat) : Option Int := cs.getD i none
theorem opt_at {cs : List (Option Int)} {c : Nat} (h : c < cs.length) : (cs.map optI)[c]? = some (optI (cAt cs c)) := by
  rw [List.getElem?_map, List.getElem?_eq_getElem h]
  unfold cAt
  rw [List.getD_eq_getElem?_getD, List.getElem?_eq_getElem h]; rfl
theorem wAt_mem {ws : List Int} {i : Nat} (h : i < ws.length) : wAt ws i ∈ ws := by
  unfold wAt
  rw [List.getD_eq_getElem?_getD, List.getElem?_eq_getElem h]
  exact List.getElem_mem h
theorem cAt_mem {cs : List (Option Int)} {i : Nat} {z : Int} (h : cAt cs i = some z) : some z ∈ cs := by
  unfold cAt at h
  rw [List.getD_eq_getElem?_getD] at h
  cases e : cs[i]? with
  | none => rw [e] at h; cases h
  | some c => rw [e] at h; have : c = some z := h; rw [← this]; exact List.mem_of_getElem? e
/-- a level as it stands -/
def LvAt (H : Hp) (lv : Option (Int × Int)) (v : V) : Prop := match lv with
  | none => v = .non
  | some (t, b) => ∃ r, v = .ref r ∧ H r = some (.tup [.int t, .int b])
theorem filter_not_mem {p q : Nat → Bool} {l : List Nat} : ((l.filter p).filter fun i => !decide (i ∈ (l.filter p).filter q)) = l.filter fun i => p i && !q i := by
  rw [filter_and]
  refine List.filter_congr fun i hi => ?_
  cases hp : p i with
  | false => rfl
  | true =>
    have : decide (i ∈ (l.filter p).filter q) = q i := by
      cases hq : q i with
      | true => exact decide_eq_true (List.mem_filter.mpr ⟨List.mem_filter.mpr ⟨hi, hp⟩, hq⟩)
      | false => exact decide_eq_false fun hm => by have := (List.mem_filter.mp hm).2; rw [hq] at this; cases this
    rw [this]
theorem filter_lt {α : Type} {q : α → Bool} {l : List α} {j : α} (h : j ∈ l) (hq : q j = false) : (l.filter q).length < l.length := by
  have h1 := List.length_filter_le q l
  have h2 : (l.filter q).length ≠ l.length := fun e => by
    have := (List.length_filter_eq_length_iff.mp e) j h
    rw [hq] at this; cases this
  omega
theorem putAll_take {ps : List (Nat × Int)} {i : Nat} {q : Nat × Int} (h : ps[i]? = some q) (f : List Int) : putAll f (ps.take (i + 1)) = (putAll f (ps.take i)).set q.1 q.2 := by
  unfold putAll
  rw [List.take_add_one, h]
  show List.foldl _ f (ps.take i ++ [q]) = _
  rw [List.foldl_append]
  rfl
theorem ixN_nat {n i : Nat} (h : i < n) : ixN n (i : Int) = some i := by
  unfold ixN
  rw [if_pos (by omega), if_pos (by omega)]
  simp
theorem map_set {α β : Type} (f : α → β) (l : List α) (i : Nat) (x : α) : (l.map f).set i (f x) = (l.set i x).map f := (List.map_set).symm
end My

/-! ### texts as lists of signs: parts, words, the longest, the wish -/
namespace My
open PySem L2
abbrev sO (l : List Nat) : Str := ⟨l.toArray⟩
theorem sO_tl (x : Str) : sO x.cps.toList = x := by
  cases x
  simp [sO]
/-- cut at each c -/
def cut (c : Nat) : List Nat → List (List Nat)
  | [] => [[]]
  | d :: r => if d = c then [] :: cut c r else match cut c r with
    | p :: ps => (d :: p) :: ps
    | [] => [[d]]
theorem cut_ne (c : Nat) : ∀ l, ∃ p ps, cut c l = p :: ps
  | [] => ⟨[], [], rfl⟩
  | d :: r => by
    obtain ⟨p, ps, e⟩ := cut_ne c r
    unfold cut
    by_cases h : d = c
    · rw [if_pos h]; exact ⟨_, _, rfl⟩
    · rw [if_neg h, e]; exact ⟨_, _, rfl⟩
theorem cut_hit {c : Nat} {r : List Nat} : cut c (c :: r) = [] :: cut c r := by
  conv => lhs; unfold cut
  rw [if_pos rfl]
theorem cut_miss {c d : Nat} {r p : List Nat} {ps : List (List Nat)} (h : d ≠ c) (e : cut c r = p :: ps) : cut c (d :: r) = (d :: p) :: ps := by
  conv => lhs; unfold cut
  rw [if_neg h, e]
theorem cut_len (c : Nat) : ∀ l : List Nat, (cut c l).length ≤ l.length + 1
  | [] => Nat.le_refl _
  | d :: r => by
    have ih := cut_len c r
    obtain ⟨p, ps, e⟩ := cut_ne c r
    by_cases h : d = c
    · subst h
      rw [cut_hit, List.length_cons, List.length_cons]; omega
    · rw [cut_miss h e, List.length_cons]
      rw [e, List.length_cons] at ih
      rw [List.length_cons]; omega
theorem spl_cut (c : Nat) : ∀ (l acc : List Nat), ∀ p ps, cut c l = p :: ps → TL.spl [c] 0 acc l = (acc ++ p) :: ps
  | [], acc, p, ps, e => by
    cases e
    rw [TL.spl_nil, List.append_nil]
  | d :: r, acc, p, ps, e => by
    obtain ⟨p', ps', e'⟩ := cut_ne c r
    by_cases h : d = c
    · subst h
      rw [cut_hit] at e
      cases e
      rw [TL.spl_hit (by simp [TL.pre]), List.append_nil]
      show acc :: TL.spl [d] 0 [] r = _
      rw [spl_cut d r [] p' ps' e', e', List.nil_append]
    · rw [cut_miss h e'] at e
      cases e
      rw [TL.spl_miss (by simp [TL.pre, h]), spl_cut c r _ p' ps e', List.append_assoc]; rfl
theorem split_cut {c : Nat} (hc : c < 256) (l : List Nat) : Txt.split (sO l) ⟨#[c]⟩ = (cut c l).map sO := by
  have := SX.split_S (a := l) (b := [c]) (by simp) (by simp [hc])
  obtain ⟨p, ps, e⟩ := cut_ne c l
  rw [spl_cut c l [] p ps e, List.nil_append, ← e] at this
  exact this
theorem join_sO (a : List Nat) (ys : List (List Nat)) : Txt.join (sO a) (ys.map sO) = sO (TL.joinL a ys) := SX.join_S a ys
theorem cut_append (c : Nat) (b : List Nat) : ∀ a : List Nat, cut c (a ++ c :: b) = cut c a ++ cut c b
  | [] => by rw [List.nil_append, cut_hit]; rfl
  | d :: r => by
    have ih := cut_append c b r
    obtain ⟨p, ps, e⟩ := cut_ne c r
    by_cases h : d = c
    · subst h
      rw [List.cons_append, cut_hit, cut_hit, ih]; rfl
    · rw [List.cons_append, cut_miss h e, cut_miss h (p := p) (ps := ps ++ cut c b) (by rw [ih, e]; rfl)]; rfl
/-- the words of a part -/
def wordsL (l : List Nat) : List (List Nat) := (cut 32 l).filter (!·.isEmpty)
def maxN : List Nat → Nat
  | [] => 0
  | a :: l => max a (maxN l)
theorem maxN_append : ∀ a b : List Nat, maxN (a ++ b) = max (maxN a) (maxN b)
  | [], b => by simp [maxN]
  | x :: a, b => by
    show max x (maxN (a ++ b)) = max (max x (maxN a)) (maxN b)
    rw [maxN_append a b]; omega
theorem foldl_maxN : ∀ (l : List Nat) (n : Nat), (l.map Int.ofNat).foldl max (n : Int) = ((max n (maxN l) : Nat) : Int)
  | [], n => by simp [maxN]
  | a :: l, n => by
    show (l.map Int.ofNat).foldl max (max (n : Int) (a : Int)) = _
    rw [show max (n : Int) (a : Int) = ((max n a : Nat) : Int) by omega, foldl_maxN l]
    show _ = ((max n (max a (maxN l)) : Nat) : Int)
    omega
/-! the longest -/
def longL (x : List Nat) : Nat := maxN (((cut 10 x).flatMap wordsL).map List.length)
/-- sign by sign: the run, the most -/
def lgM : Nat → Nat → List Nat → Nat
  | _, m, [] => m
  | r, m, c :: t => let r' := if c = 32 ∨ c = 10 then 0 else r + 1
    lgM r' (max m r') t
theorem lgM_max : ∀ (t : List Nat) (r m : Nat), lgM r m t = max m (lgM r 0 t)
  | [], r, m => by simp [lgM]
  | c :: t, r, m => by
    show lgM _ (max m _) t = max m (lgM _ (max 0 _) t)
    rw [lgM_max t _ (max m _), lgM_max t _ (max 0 _)]; omega
/-- the longest of a part's words, its first word begun with r signs -/
def lgP (r : Nat) (x : List Nat) : Nat := match cut 32 x with
  | [] => 0
  | h :: ts => max (r + h.length) (maxN (ts.map List.length))
theorem maxN_filter : ∀ l : List (List Nat), maxN ((l.filter (!·.isEmpty)).map List.length) = maxN (l.map List.length)
  | [] => rfl
  | [] :: l => by
    show maxN ((l.filter _).map _) = max 0 (maxN (l.map List.length))
    rw [maxN_filter l]; omega
  | (a :: p) :: l => by
    show max _ (maxN ((l.filter _).map _)) = max _ _
    rw [maxN_filter l]
theorem lgP_words (x : List Nat) : lgP 0 x = maxN ((wordsL x).map List.length) := by
  unfold wordsL
  rw [maxN_filter]
  unfold lgP
  obtain ⟨p, ps, e⟩ := cut_ne 32 x
  rw [e]
  show max (0 + p.length) _ = max p.length _
  rw [Nat.zero_add]
theorem lgP_nil (r : Nat) : lgP r [] = r := by
  show max (r + 0) 0 = r
  omega
theorem lgP_blank (r : Nat) (t : List Nat) : lgP r (32 :: t) = max r (lgP 0 t) := by
  unfold lgP
  obtain ⟨p, ps, e⟩ := cut_ne 32 t
  rw [cut_hit, e]
  show max (r + 0) (max p.length _) = max r (max (0 + p.length) _)
  rw [Nat.zero_add, Nat.add_zero]
theorem lgP_sign {r c : Nat} {t : List Nat} (h : c ≠ 32) : lgP r (c :: t) = lgP (r + 1) t := by
  unfold lgP
  obtain ⟨p, ps, e⟩ := cut_ne 32 t
  rw [cut_miss h e, e]
  show max (r + (p.length + 1)) _ = max (r + 1 + p.length) _
  rw [show r + (p.length + 1) = r + 1 + p.length by omega]
theorem lgP_ge (r : Nat) (t : List Nat) : r ≤ lgP r t := by
  unfold lgP
  obtain ⟨p, ps, e⟩ := cut_ne 32 t
  rw [e]
  show r ≤ max (r + p.length) _
  omega
theorem lgM_cut : ∀ (x : List Nat) (r m : Nat), r ≤ m → ∀ p ps, cut 10 x = p :: ps → lgM r m x = max m (max (lgP r p) (maxN (ps.map (lgP 0))))
  | [], r, m, hr, p, ps, e => by
    cases e
    rw [lgP_nil]
    show m = max m (max r 0)
    omega
  | c :: t, r, m, hr, p, ps, e => by
    obtain ⟨p', ps', e'⟩ := cut_ne 10 t
    by_cases h : c = 10
    · subst h
      rw [cut_hit, e'] at e
      cases e
      show lgM 0 (max m 0) t = _
      rw [lgM_cut t 0 (max m 0) (Nat.zero_le _) p' ps' e', lgP_nil]
      show max (max m 0) (max (lgP 0 p') _) = max m (max r (max (lgP 0 p') _))
      omega
    · rw [cut_miss h e'] at e
      cases e
      by_cases hb : c = 32
      · subst hb
        show lgM 0 (max m 0) t = _
        rw [lgM_cut t 0 (max m 0) (Nat.zero_le _) p' ps e', lgP_blank]
        omega
      · show lgM (if c = 32 ∨ c = 10 then 0 else r + 1) (max m (if c = 32 ∨ c = 10 then 0 else r + 1)) t = _
        rw [if_neg (by simp [h, hb]), lgM_cut t (r + 1) (max m (r + 1)) (by omega) p' ps e', lgP_sign hb]
        have := lgP_ge (r + 1) p'
        omega
theorem maxN_flat : ∀ l : List (List Nat), maxN ((l.flatMap wordsL).map List.length) = maxN (l.map (lgP 0))
  | [] => rfl
  | x :: l => by
    rw [List.flatMap_cons, List.map_append, maxN_append, maxN_flat l, ← lgP_words]; rfl
theorem long_M (x : List Nat) : longL x = lgM 0 0 x := by
  unfold longL
  obtain ⟨p, ps, e⟩ := cut_ne 10 x
  rw [lgM_cut x 0 0 (Nat.le_refl _) p ps e, maxN_flat, e]
  show max (lgP 0 p) _ = max 0 (max (lgP 0 p) _)
  omega
/-! the wish -/
def joined (l : List Nat) : List Nat := TL.joinL [32] (wordsL l)
def wishL (x : List Nat) : Nat := maxN ((cut 10 x).map fun p => (joined p).length)
def worth (l w : Nat) : Nat := l + (w - 1)
/-- sign by sign: the letters, the words, whether a word's end is ahead, the most -/
def wsM : Nat → Nat → Bool → Nat → List Nat → Nat
  | _, _, _, m, [] => m
  | l, w, b, m, c :: t => if c = 10 then wsM 0 0 true (max m 0) t
    else if c = 32 then wsM l w true (max m (worth l w)) t
    else wsM (l + 1) (w + (if b then 1 else 0)) false (max m (worth (l + 1) (w + (if b then 1 else 0)))) t
def begs : Bool → List Nat → Nat
  | _, [] => 0
  | b, c :: t => if c = 32 then begs true t else (if b then 1 else 0) + begs false t
def lets (l : List Nat) : Nat := (l.filter (· ≠ 32)).length
theorem begs_cut : ∀ (t : List Nat) (p : List Nat) (ps : List (List Nat)), cut 32 t = p :: ps → begs false t = (ps.filter (!·.isEmpty)).length ∧ begs true t = ((p :: ps).filter (!·.isEmpty)).length
  | [], p, ps, e => by cases e; exact ⟨rfl, rfl⟩
  | c :: t, p, ps, e => by
    obtain ⟨p', ps', e'⟩ := cut_ne 32 t
    have ih := begs_cut t p' ps' e'
    by_cases h : c = 32
    · subst h
      rw [cut_hit, e'] at e
      cases e
      exact ⟨ih.2, ih.2⟩
    · rw [cut_miss h e'] at e
      cases e
      refine ⟨?_, ?_⟩
      · show (if c = 32 then begs true t else 0 + begs false t) = _
        rw [if_neg h, ih.1]; omega
      · show (if c = 32 then begs true t else 1 + begs false t) = _
        rw [if_neg h, ih.1]
        show 1 + _ = (List.filter _ ((c :: p') :: ps)).length
        rw [List.filter_cons_of_pos (by rfl), List.length_cons]; omega
theorem lets_cut : ∀ (t : List Nat), ((cut 32 t).map List.length).sum = lets t
  | [] => rfl
  | c :: t => by
    have ih := lets_cut t
    obtain ⟨p, ps, e⟩ := cut_ne 32 t
    by_cases h : c = 32
    · subst h
      rw [cut_hit, List.map_cons, List.sum_cons, ih]
      show 0 + lets t = lets (32 :: t)
      unfold lets
      rw [List.filter_cons_of_neg (by simp)]; omega
    · rw [cut_miss h e]
      rw [e] at ih
      show (p.length + 1) + (ps.map List.length).sum = _
      have ih : p.length + (ps.map List.length).sum = lets t := ih
      unfold lets
      rw [List.filter_cons_of_pos (by simp [h]), List.length_cons]
      unfold lets at ih
      omega
theorem sum_filter : ∀ l : List (List Nat), ((l.filter (!·.isEmpty)).map List.length).sum = (l.map List.length).sum
  | [] => rfl
  | [] :: l => by
    show ((l.filter _).map _).sum = 0 + (l.map List.length).sum
    rw [sum_filter l]; omega
  | (a :: p) :: l => by
    rw [List.filter_cons_of_pos (by rfl), List.map_cons, List.map_cons, List.sum_cons, List.sum_cons, sum_filter l]
theorem joinL_len (s : Nat) : ∀ l : List (List Nat), (TL.joinL [s] l).length = (l.map List.length).sum + (l.length - 1)
  | [] => rfl
  | [p] => by show p.length = (p.length + 0) + 0; omega
  | p :: q :: r => by
    have ih := joinL_len s (q :: r)
    show (p ++ ([s] ++ TL.joinL [s] (q :: r))).length = (p.length + ((q :: r).map List.length).sum) + ((q :: r).length + 1 - 1)
    rw [List.length_append, List.length_append, ih]
    show p.length + (1 + _) = _
    have : (q :: r).length = r.length + 1 := rfl
    omega
theorem joined_len (p : List Nat) : (joined p).length = worth (lets p) (begs true p) := by
  obtain ⟨h, ts, e⟩ := cut_ne 32 p
  unfold joined
  rw [joinL_len]
  unfold wordsL
  rw [sum_filter, lets_cut, (begs_cut p h ts e).2, e]; rfl
/-- a part's worth, from letters, words and what is ahead -/
def wsP (l w : Nat) (b : Bool) (p : List Nat) : Nat := worth (l + lets p) (w + begs b p)
theorem worth_mono {l l' w w' : Nat} (h1 : l ≤ l') (h2 : w ≤ w') : worth l w ≤ worth l' w' := by unfold worth; omega
theorem wsM_cut : ∀ (x : List Nat) (l w : Nat) (b : Bool) (m : Nat), worth l w ≤ m → ∀ p ps, cut 10 x = p :: ps → wsM l w b m x = max m (max (wsP l w b p) (maxN (ps.map fun p => wsP 0 0 true p)))
  | [], l, w, b, m, hm, p, ps, e => by
    cases e
    show m = max m (max (worth (l + 0) (w + 0)) 0)
    rw [Nat.add_zero, Nat.add_zero]; omega
  | c :: t, l, w, b, m, hm, p, ps, e => by
    obtain ⟨p', ps', e'⟩ := cut_ne 10 t
    by_cases h : c = 10
    · subst h
      rw [cut_hit, e'] at e
      cases e
      show wsM 0 0 true (max m 0) t = _
      rw [wsM_cut t 0 0 true (max m 0) (by unfold worth; omega) p' ps' e']
      show max (max m 0) (max (wsP 0 0 true p') _) = max m (max (worth (l + 0) (w + 0)) (max (wsP 0 0 true p') _))
      rw [Nat.add_zero, Nat.add_zero]; omega
    · rw [cut_miss h e'] at e
      cases e
      by_cases hb : c = 32
      · subst hb
        show wsM l w true (max m (worth l w)) t = _
        rw [wsM_cut t l w true _ (by omega) p' ps e']
        have e1 : wsP l w b (32 :: p') = wsP l w true p' := by
          unfold wsP lets
          rw [List.filter_cons_of_neg (by simp)]
          rfl
        rw [e1]; omega
      · show (if c = 10 then wsM 0 0 true (max m 0) t else if c = 32 then wsM l w true (max m (worth l w)) t else wsM (l + 1) (w + (if b then 1 else 0)) false (max m (worth (l + 1) (w + (if b then 1 else 0)))) t) = _
        rw [if_neg h, if_neg hb, wsM_cut t (l + 1) _ false _ (by omega) p' ps e']
        have e1 : wsP l w b (c :: p') = wsP (l + 1) (w + (if b then 1 else 0)) false p' := by
          unfold wsP lets
          rw [List.filter_cons_of_pos (by simp [hb]), List.length_cons]
          show worth _ (w + (if c = 32 then begs true p' else (if b then 1 else 0) + begs false p')) = _
          rw [if_neg hb, show l + ((p'.filter (· ≠ 32)).length + 1) = l + 1 + (p'.filter (· ≠ 32)).length by omega, Nat.add_assoc w]
        have e2 : worth (l + 1) (w + (if b then 1 else 0)) ≤ wsP (l + 1) (w + (if b then 1 else 0)) false p' := worth_mono (by omega) (by omega)
        rw [e1]; omega
theorem wish_M (x : List Nat) : wishL x = wsM 0 0 true 0 x := by
  obtain ⟨p, ps, e⟩ := cut_ne 10 x
  rw [wsM_cut x 0 0 true 0 (by unfold worth; omega) p ps e]
  have e1 : ∀ q, (joined q).length = wsP 0 0 true q := fun q => by
    rw [joined_len]; unfold wsP; rw [Nat.zero_add, Nat.zero_add]
  unfold wishL
  rw [e]
  show max (joined p).length (maxN (ps.map fun p => (joined p).length)) = _
  rw [e1 p, show (fun p => (joined p).length) = (fun p => wsP 0 0 true p) from funext e1]; omega
theorem long_append (a b : List Nat) : longL (a ++ 10 :: b) = max (longL a) (longL b) := by
  unfold longL
  rw [cut_append, List.flatMap_append, List.map_append, maxN_append]
theorem wish_append (a b : List Nat) : wishL (a ++ 10 :: b) = max (wishL a) (wishL b) := by
  unfold wishL
  rw [cut_append, List.map_append, maxN_append]
/-! more blanks -/
def rep2 : List Nat → List Nat
  | [] => []
  | c :: t => if c = 32 then 32 :: 32 :: rep2 t else c :: rep2 t
theorem rep2_cut : ∀ x : List Nat, TL.joinL [32, 32] (cut 32 x) = rep2 x
  | [] => rfl
  | c :: t => by
    have ih := rep2_cut t
    obtain ⟨p, ps, e⟩ := cut_ne 32 t
    by_cases h : c = 32
    · subst h
      rw [cut_hit]
      rw [e] at ih ⊢
      show [] ++ ([32, 32] ++ TL.joinL [32, 32] (p :: ps)) = 32 :: 32 :: rep2 t
      rw [ih]; rfl
    · rw [cut_miss h e]
      rw [e] at ih
      have e2 : rep2 (c :: t) = c :: rep2 t := by
        show (if c = 32 then _ else _) = _
        rw [if_neg h]
      rw [e2, ← ih]
      cases ps <;> rfl
theorem rep2_len : ∀ x : List Nat, (rep2 x).length ≤ 2 * x.length
  | [] => Nat.le_refl _
  | c :: t => by
    have ih := rep2_len t
    show (if c = 32 then 32 :: 32 :: rep2 t else c :: rep2 t).length ≤ 2 * (t.length + 1)
    split
    · rw [List.length_cons, List.length_cons]; omega
    · rw [List.length_cons]; omega
theorem lgM_rep : ∀ (x : List Nat) (r m : Nat), lgM r m (rep2 x ++ [32, 32]) = lgM r m x
  | [], r, m => by
    show max (max m 0) 0 = m
    omega
  | c :: t, r, m => by
    by_cases h : c = 32
    · subst h
      show lgM 0 (max (max m 0) 0) (rep2 t ++ [32, 32]) = lgM 0 (max m 0) t
      rw [show max (max m 0) 0 = max m 0 by omega]
      exact lgM_rep t 0 _
    · show lgM r m ((if c = 32 then 32 :: 32 :: rep2 t else c :: rep2 t) ++ [32, 32]) = _
      rw [if_neg h]
      exact lgM_rep t _ _
theorem wsM_rep : ∀ (x : List Nat) (l w : Nat) (b : Bool) (m : Nat), worth l w ≤ m → wsM l w b m (rep2 x ++ [32, 32]) = wsM l w b m x
  | [], l, w, b, m, hm => by
    show max (max m (worth l w)) (worth l w) = m
    omega
  | c :: t, l, w, b, m, hm => by
    by_cases h : c = 32
    · subst h
      show wsM l w true (max (max m (worth l w)) (worth l w)) (rep2 t ++ [32, 32]) = wsM l w true (max m (worth l w)) t
      rw [show max (max m (worth l w)) (worth l w) = max m (worth l w) by omega]
      exact wsM_rep t l w true _ (by omega)
    · show wsM l w b m ((if c = 32 then 32 :: 32 :: rep2 t else c :: rep2 t) ++ [32, 32]) = _
      rw [if_neg h]
      show (if c = 10 then wsM 0 0 true (max m 0) (rep2 t ++ [32, 32]) else if c = 32 then wsM l w true (max m (worth l w)) (rep2 t ++ [32, 32]) else wsM (l + 1) (w + (if b then 1 else 0)) false (max m (worth (l + 1) (w + (if b then 1 else 0)))) (rep2 t ++ [32, 32])) = (if c = 10 then wsM 0 0 true (max m 0) t else if c = 32 then wsM l w true (max m (worth l w)) t else wsM (l + 1) (w + (if b then 1 else 0)) false (max m (worth (l + 1) (w + (if b then 1 else 0)))) t)
      by_cases h10 : c = 10
      · rw [if_pos h10, if_pos h10]
        exact wsM_rep t 0 0 true _ (by unfold worth; omega)
      · rw [if_neg h10, if_neg h10, if_neg h, if_neg h]
        exact wsM_rep t _ _ false _ (by omega)
def wideL (x : List Nat) : List Nat := 32 :: (rep2 x ++ [32, 32])
theorem long_wide (x : List Nat) : longL (wideL x) = longL x := by
  rw [long_M, long_M]
  exact lgM_rep x 0 0
theorem wish_wide (x : List Nat) : wishL (wideL x) = wishL x := by
  rw [wish_M, wish_M]
  exact wsM_rep x 0 0 true 0 (by unfold worth; omega)
theorem replace_rep (x : List Nat) : Txt.replace (sO x) " " "  " = sO (rep2 x) := by
  have h := StrLaws.replace_one (sO x) "  " 32
  have e1 : (⟨#[32]⟩ : Str) = " " := by decide +kernel
  have e2 : ("  " : Str) = sO [32, 32] := by decide +kernel
  rw [split_cut (by decide), e2, ← TL.join_eq, join_sO, rep2_cut] at h
  rw [← e1, e2]
  exact h
theorem max_cast (a b : Nat) : (if (a : Int) > (b : Int) then (a : Int) else (b : Int)) = ((max b a : Nat) : Int) := by
  split <;> omega
theorem worth_cast (le wo : Nat) : ((le : Int) + if (wo : Int) - 1 > 0 then (wo : Int) - 1 else 0) = ((worth le wo : Nat) : Int) := by
  unfold worth
  split <;> omega
theorem lgM_end {r m c : Nat} {t : List Nat} (e : c = 32 ∨ c = 10) : lgM r m (c :: t) = lgM 0 (max m 0) t := by
  show lgM (if c = 32 ∨ c = 10 then 0 else r + 1) (max m (if c = 32 ∨ c = 10 then 0 else r + 1)) t = _
  rw [if_pos e]
theorem lgM_run {r m c : Nat} {t : List Nat} (e : ¬ (c = 32 ∨ c = 10)) : lgM r m (c :: t) = lgM (r + 1) (max m (r + 1)) t := by
  show lgM (if c = 32 ∨ c = 10 then 0 else r + 1) (max m (if c = 32 ∨ c = 10 then 0 else r + 1)) t = _
  rw [if_neg e]
theorem wsM_feed {l w m c : Nat} {b : Bool} {t : List Nat} (e : c = 10) : wsM l w b m (c :: t) = wsM 0 0 true (max m (worth 0 0)) t := by subst e; rfl
theorem wsM_blank {l w m c : Nat} {b : Bool} {t : List Nat} (e : ¬ c = 10) (e2 : c = 32) : wsM l w b m (c :: t) = wsM l w true (max m (worth l w)) t := by subst e2; rfl
theorem wsM_sign {l w m c : Nat} {b : Bool} {t : List Nat} (e : ¬ c = 10) (e2 : ¬ c = 32) : wsM l w b m (c :: t) = wsM (l + 1) (w + (if b then 1 else 0)) false (max m (worth (l + 1) (w + (if b then 1 else 0)))) t := by
  show (if c = 10 then _ else if c = 32 then _ else _) = _
  rw [if_neg e, if_neg e2]
theorem cut_sum (c : Nat) : ∀ l : List Nat, ((cut c l).map List.length).sum ≤ l.length
  | [] => Nat.le_refl _
  | d :: r => by
    have ih := cut_sum c r
    obtain ⟨p, ps, e⟩ := cut_ne c r
    by_cases h : d = c
    · subst h
      rw [cut_hit, List.map_cons, List.sum_cons, List.length_cons]
      show 0 + _ ≤ _
      omega
    · rw [cut_miss h e, List.map_cons, List.sum_cons, List.length_cons, List.length_cons]
      rw [e, List.map_cons, List.sum_cons] at ih
      omega
theorem mem_sum {l : List (List Nat)} {p : List Nat} (h : p ∈ l) : p.length ≤ (l.map List.length).sum := by
  induction l with
  | nil => cases h
  | cons a l ih =>
    rw [List.map_cons, List.sum_cons]
    rcases List.mem_cons.mp h with rfl | h
    · omega
    · have := ih h; omega
theorem words_sum (p : List Nat) : ((wordsL p).map List.length).sum ≤ p.length := by
  unfold wordsL
  rw [sum_filter]
  exact cut_sum 32 p
theorem words_pos {p w : List Nat} (h : w ∈ wordsL p) : 0 < w.length := by
  have := (List.mem_filter.mp h).2
  cases w with
  | nil => cases this
  | cons a w => exact Nat.succ_pos _
theorem count_sum : ∀ {l : List (List Nat)}, (∀ w ∈ l, 0 < w.length) → l.length ≤ (l.map List.length).sum
  | [], _ => Nat.le_refl _
  | w :: l, h => by
    have h1 := h w (List.mem_cons_self ..)
    have h2 := count_sum fun y hy => h y (List.mem_cons_of_mem _ hy)
    rw [List.map_cons, List.sum_cons, List.length_cons]; omega
theorem words_count (p : List Nat) : (wordsL p).length ≤ p.length := Nat.le_trans (count_sum fun _ h => words_pos h) (words_sum p)
theorem flat_count : ∀ l : List (List Nat), (l.flatMap wordsL).length ≤ (l.map List.length).sum
  | [] => Nat.le_refl _
  | p :: l => by
    rw [List.flatMap_cons, List.length_append, List.map_cons, List.sum_cons]
    have h1 := words_count p
    have h2 := flat_count l
    omega
theorem part_len {c : Nat} {l p : List Nat} (h : p ∈ cut c l) : p.length ≤ l.length := Nat.le_trans (mem_sum h) (cut_sum c l)
theorem flat_take (f : List Nat → List (List Nat)) (l : List (List Nat)) (i : Nat) : ((l.take i).flatMap f).length ≤ (l.flatMap f).length := by
  conv => rhs; rw [← List.take_append_drop i l]
  rw [List.flatMap_append, List.length_append]; omega
theorem maxN_ge : ∀ {l : List Nat} {k : Nat}, k ∈ l → k ≤ maxN l
  | a :: l, k, h => by
    show k ≤ max a (maxN l)
    rcases List.mem_cons.mp h with rfl | h
    · omega
    · have := maxN_ge h; omega
theorem maxN_le : ∀ {l : List Nat} {m : Nat}, (∀ k ∈ l, k ≤ m) → maxN l ≤ m
  | [], m, _ => Nat.zero_le _
  | a :: l, m, h => by
    show max a (maxN l) ≤ m
    have h1 := h a (List.mem_cons_self ..)
    have h2 := maxN_le fun k hk => h k (List.mem_cons_of_mem _ hk)
    omega
theorem maxN_of {l : List Nat} {m : Int} (h : m ∈ l.map Int.ofNat) (g : ∀ y ∈ l.map Int.ofNat, y ≤ m) : m = ((maxN l : Nat) : Int) := by
  obtain ⟨k, hk, rfl⟩ := List.mem_map.mp h
  have h1 := maxN_ge hk
  have h2 : maxN l ≤ k := maxN_le fun j hj => by
    have := g _ (List.mem_map.mpr ⟨j, hj, rfl⟩)
    exact Int.ofNat_le.mp this
  show ((k : Nat) : Int) = _
  omega
/-! the signs of words -/
def alphL : List Nat := (Str.ofString "!\"#$&'()*+,-./0123456789:;<=>?@ABCDEFGHIJKLMNOPQRSTUVWXYZ[\\]^_`abcdefghijklmnopqrstuvwxyz{}~").cps.toList
theorem alph_len : alphL.length = 92 := by decide +kernel
theorem alph_ok : ∀ c ∈ alphL, 33 ≤ c ∧ c < 127 := by decide +kernel
def signL (f s : Int) (k : Nat) : Nat := alphL.getD ((f + s * (k : Int)) % 92).toNat 33
theorem signL_at (f s : Int) (k : Nat) : atI alphL ((f + s * (k : Int)) % 92) = some (signL f s k) := by
  have h0 := Int.emod_nonneg (f + s * (k : Int)) (b := 92) (by decide)
  have h1 := Int.emod_lt_of_pos (f + s * (k : Int)) (b := 92) (by decide)
  unfold signL
  generalize (f + s * (k : Int)) % 92 = i at h0 h1
  obtain ⟨j, rfl⟩ := Int.eq_ofNat_of_zero_le h0
  have hj : j < alphL.length := by rw [alph_len]; omega
  unfold atI
  rw [ixN_nat hj, Int.toNat_natCast, List.getD_eq_getElem?_getD, List.getElem?_eq_getElem hj]
  exact List.getElem?_eq_getElem hj
theorem signL_ok (f s : Int) (k : Nat) : 33 ≤ signL f s k ∧ signL f s k < 127 := by
  have h := signL_at f s k
  unfold atI at h
  obtain ⟨j, _, hj⟩ := Option.bind_eq_some_iff.mp h
  exact alph_ok _ (List.mem_of_getElem? hj)
theorem joinL_signs : ∀ l : List Nat, TL.joinL [] (l.map fun c => [c]) = l
  | [] => rfl
  | [c] => rfl
  | c :: d :: l => by
    show [c] ++ ([] ++ TL.joinL [] ((d :: l).map fun c => [c])) = _
    rw [joinL_signs (d :: l)]; rfl
end My

/-! ### rules for texts -/
namespace My
open PySem PySem.Spec PyProof.Rows L2
section
variable {X : Cx}
/-- c * n -/
def rRepS : R2 := fun x y H Q => ∃ (c : Nat) (n : Nat), x = .str ⟨#[c]⟩ ∧ y = .int (n : Int) ∧ 1 ≤ n ∧ n ≤ 1000 ∧ Q (.str (sO (List.replicate n c))) H
theorem fold_rep (c : Nat) : ∀ (n : Nat) (acc : Array Nat), ((List.replicate n #[c]).foldl (· ++ ·) acc) = (acc.toList ++ List.replicate n c).toArray
  | 0, acc => by simp
  | n + 1, acc => by
    rw [List.replicate_succ, List.foldl_cons, fold_rep c n]
    simp [List.replicate_succ]
theorem op_repS : OpR X (binaryOp .Mult) rRepS := by
  intro pins s σ H x y v u Q I rx ry h
  obtain ⟨c, n, rfl, rfl, n1, n2, q⟩ := h
  obtain ⟨t, rfl⟩ := rx
  obtain ⟨t', rfl⟩ := ry
  refine P.mul_str ?_ (fun _ _ => ?_) (fun _ _ => ?_) ?_
  · rw [decide_eq_false (by omega), decide_eq_false (by omega)]; rfl
  · show ¬ (((#[c] : Array Nat).size : Int) > _)
    have h1 : (n : Int) ≤ 1000 := by omega
    have h2 : 1 ≤ (2 ^ 63 - 1 : Int) / (n : Int) := by
      apply Int.le_ediv_of_mul_le (by omega)
      omega
    show ¬ ((1 : Nat) : Int) > _
    omega
  · show PySem.Builtin.Str.tooLong (1 * (n : Int).toNat) = false
    unfold PySem.Builtin.Str.tooLong
    exact decide_eq_false (by rw [sizeLine_eq]; simp; omega)
  · rw [if_neg (by omega)]
    have e : (⟨(List.replicate (n : Int).toNat (⟨#[c]⟩ : Str).cps).foldl (· ++ ·) #[]⟩ : Str) = sO (List.replicate n c) := by
      rw [Int.toNat_natCast]
      show (⟨(List.replicate n #[c]).foldl (· ++ ·) #[]⟩ : Str) = _
      rw [fold_rep]; simp [sO]
    split
    · rename_i h
      have hn : n = 1 := by
        have : ((⟨#[c]⟩ : Str).length == 0) = false := rfl
        rw [this, Bool.or_false] at h
        have := eq_of_beq h
        omega
      subst hn
      exact ⟨.str (sO [c]), H, I, ⟨t, rfl⟩, q⟩
    · rw [e]
      refine ⟨?_, .str _, H, I.tok _, ⟨_, rfl⟩, q⟩
      show (List.replicate n c).toArray.size ≤ sizeLine
      rw [List.size_toArray, List.length_replicate, sizeLine_eq]; omega
/-- x.split(c): a new list of the parts -/
theorem mt_splitN : MtR X "str.split" (fun x xs H Q => ∃ (l : List Nat) (c : Nat), x = .str (sO l) ∧ xs = [.str ⟨#[c]⟩] ∧ c < 256 ∧ l.length + 2 ≤ sizeLine ∧ New H (.lst ((cut c l).map fun p => .str (sO p))) Q) := by
  intro pins s σ H x xs v us Q I rx rs h
  obtain ⟨l, c, rfl, rfl, hc, hl, q⟩ := h
  refine mt_split pins s σ H _ _ v us Q I rx rs ⟨sO l, ⟨#[c]⟩, rfl, rfl, rfl, hl, fun p hp => ?_⟩
  rw [split_cut hc, List.map_map]
  exact q.go p hp
theorem pe_splitN {o e : Expr} {to te : TE} {apos pos : Pos} (ho : PE X o to) (he : PE X e te) (hs : starEach [e] X.env = [(false, eval e X.env)] := by rfl) (hbase : attributeBase o "split" X.env (eval o X.env) = eval o X.env := by rfl) (hline : (apos.endLine == pos.line) = true := by rfl) :
    PE X (.Call (.Attribute o "split" apos) [e] [] pos) (tM1 (fun x xs H Q => ∃ (l : List Nat) (c : Nat), x = .str (sO l) ∧ xs = [.str ⟨#[c]⟩] ∧ c < 256 ∧ l.length + 2 ≤ sizeLine ∧ New H (.lst ((cut c l).map fun p => .str (sO p))) Q) to te) :=
  pe_m1 PySem.F.slot_str_split PySem.F.type_str_split mt_splitN ho he hs hbase hline
/-- sep.join(list of texts) -/
theorem mt_joinN {K : PySem.W.Frag} (hK : X.K = K) : MtR X "str.join" (fun x xs H Q => ∃ (a : List Nat) (p : Addr) (ys : List (List Nat)), x = .str (sO a) ∧ xs = [.ref p] ∧ SqL K H p (ys.map fun y => V.str (sO y)) ∧ (ys.map List.length).sum + ys.length * a.length ≤ 16777216 ∧ Q (.str (sO (TL.joinL a ys))) H) := by
  intro pins s σ H x xs v us Q I rx rs h
  obtain ⟨a, p, ys, rfl, rfl, hp, hz, q⟩ := h
  subst hK
  refine mt_join pins s σ H _ _ v us Q I rx rs ⟨sO a, p, ys.map sO, rfl, rfl, .inl (by rw [List.map_map]; exact hp), ?_, ?_⟩
  · rw [List.map_map, List.length_map]; exact hz
  · rw [join_sO]; exact q
theorem pe_joinN {K : PySem.W.Frag} (hK : X.K = K) {o e : Expr} {to te : TE} {apos pos : Pos} (ho : PE X o to) (he : PE X e te) (hs : starEach [e] X.env = [(false, eval e X.env)] := by rfl) (hbase : attributeBase o "join" X.env (eval o X.env) = eval o X.env := by rfl) (hline : (apos.endLine == pos.line) = true := by rfl) :
    PE X (.Call (.Attribute o "join" apos) [e] [] pos) (tM1 (fun x xs H Q => ∃ (a : List Nat) (p : Addr) (ys : List (List Nat)), x = .str (sO a) ∧ xs = [.ref p] ∧ SqL K H p (ys.map fun y => V.str (sO y)) ∧ (ys.map List.length).sum + ys.length * a.length ≤ 16777216 ∧ Q (.str (sO (TL.joinL a ys))) H) to te) :=
  pe_m1 PySem.F.slot_str_join PySem.F.type_str_join (mt_joinN hK) ho he hs hbase hline
/-- 'c' op e where e wants a token -/
theorem pe_opT {op : Operator} {r : R2} {c : Str} {j : Nat} {p pos : Pos} {f : Expr} {tf : TE} (ho : OpR X (binaryOp op) r) (hb : PET X f tf) : PE X (.BinOp (.Constant (.str c) j p) op f pos) (tOp r (tC (.str c)) tf) := by
  refine ⟨fun pins s σ H Q I h => ?_⟩
  refine wpAny_BinOp (PySem.Calls.Constant_str ?_)
  exact thn (hb pins _ σ H _ (Nat.succ_le_succ (Nat.zero_le _)) (I.tok _) h) fun u s2 ⟨y, H2, I2, r2, q2⟩ => ho pins s2 σ H2 (.str c) y _ u Q I2 ⟨_, rfl⟩ r2 q2
end
/-! #### walks -/
theorem it_list {K : PySem.W.Frag} {a : Addr} {xs : List V} {Qd : Hp → Prop} {Body : (Hp → Prop) → V → Hp → Prop} {H0 : Hp} (Pv : Nat → Hp → Prop) (h0 : Pv 0 H0) (hl : ∀ i H, i ≤ xs.length → Pv i H → SqL K H a xs)
    (hs : ∀ i x H, xs[i]? = some x → Pv i H → Body (Pv (i + 1)) x H) (hd : ∀ H, Pv xs.length H → Qd H) :
    ∃ W : Nat → Nat → Hp → Prop, (∃ m, W 0 m H0) ∧ ∀ i m H, W i m H →
      ((Itl K a).stop i H ∧ Qd H) ∨ ((Itl K a).go i H ∧ ∃ Nx : Hp → Prop, (∀ H', Nx H' → ∃ m', m' < m ∧ W (i + 1) m' H') ∧ ∀ x H', (Itl K a).yld i H x H' → Body Nx x H') := by
  refine ⟨fun i m H => m = xs.length - i ∧ i ≤ xs.length ∧ Pv i H, ⟨xs.length, by simp, Nat.zero_le _, h0⟩, ?_⟩
  rintro i m H ⟨rfl, hi, p⟩
  have q := hl i H hi p
  by_cases hlt : i < xs.length
  · refine .inr ⟨⟨xs, xs[i], q, by simp [hlt]⟩, Pv (i + 1), fun H' p' => ⟨xs.length - (i + 1), by omega, rfl, hlt, p'⟩, fun x H' y => ?_⟩
    obtain ⟨e, y⟩ := y
    subst e
    exact hs i x _ (y xs q) p
  · have e : i = xs.length := by omega
    subst e
    exact .inl ⟨⟨xs, q, Nat.le_refl _⟩, hd H p⟩
/-- for c in a text -/
theorem for_str {l : List Nat} {g : TG} {tb : TS} {D : Ends} {σ : L2.St} {H : Hp} (Pv : Nat → L2.St → Hp → Prop) (h0 : Pv 0 σ H)
    (hs : ∀ i c σ H, l[i]? = some c → Pv i σ H → g (.str ⟨#[c]⟩) σ H fun σ2 H2 => tb { D with nx := Pv (i + 1), ct := Pv (i + 1), bk := D.nx } σ2 H2) (hd : ∀ σ H, Pv l.length σ H → D.nx σ H) :
    ∃ W : Nat → Nat → L2.St → Hp → Prop, (∃ m, W 0 m σ H) ∧ ∀ i m σ H, W i m σ H →
      ((Its (sO l)).stop i H ∧ D.nx σ H) ∨ ((Its (sO l)).go i H ∧ ∃ N : L2.St → Hp → Prop, (∀ σ' H', N σ' H' → ∃ m', m' < m ∧ W (i + 1) m' σ' H') ∧ ∀ x H', (Its (sO l)).yld i H x H' → g x σ H' fun σ2 H2 => tb { D with nx := N, ct := N, bk := D.nx } σ2 H2) := by
  refine ⟨fun i m σ H => m = l.length - i ∧ i ≤ l.length ∧ Pv i σ H, ⟨l.length, by simp, Nat.zero_le _, h0⟩, ?_⟩
  rintro i m σ H ⟨rfl, hi, p⟩
  by_cases hlt : i < l.length
  · refine .inr ⟨?_, Pv (i + 1), fun σ' H' p' => ⟨l.length - (i + 1), by omega, rfl, hlt, p'⟩, fun x H' y => ?_⟩
    · show i < l.toArray.size
      rw [List.size_toArray]; exact hlt
    · obtain ⟨rfl, c, hc, rfl⟩ := y
      have hc : l.toArray[i]? = some c := hc
      rw [List.getElem?_toArray] at hc
      exact hs i c σ _ hc p
  · have e : i = l.length := by omega
    subst e
    refine .inl ⟨?_, hd σ H p⟩
    show l.toArray.size ≤ l.length
    rw [List.size_toArray]; exact Nat.le_refl _
/-! #### written texts -/
theorem blank_eq : Str.ofString " " = ⟨#[32]⟩ := by decide +kernel
theorem feed_eq : Str.ofString "\n" = ⟨#[10]⟩ := by decide +kernel
theorem ends_eq : Str.ofString " \n" = sO [32, 10] := by decide +kernel
theorem empty_eq : Str.ofString "" = sO [] := by decide +kernel
theorem str_inj_dec {l m : List Nat} : decide (V.str (sO l) = V.str (sO m)) = decide (l = m) := decide_eq_decide.mpr ⟨fun e => by
  have := congrArg (fun v => match v with | V.str x => x.cps.toList | _ => []) e
  simpa [sO] using this, fun e => by rw [e]⟩
theorem empty_dec {l : List Nat} : decide (V.str (sO l) = V.str (Str.ofString "")) = l.isEmpty := by
  rw [empty_eq, str_inj_dec]
  cases l <;> rfl
theorem sign_dec {c d : Nat} : decide (V.str ⟨#[c]⟩ = V.str ⟨#[d]⟩) = decide (c = d) := by
  have := str_inj_dec (l := [c]) (m := [d])
  rw [show (V.str ⟨#[c]⟩) = V.str (sO [c]) from rfl, show (V.str ⟨#[d]⟩) = V.str (sO [d]) from rfl, this]
  exact decide_eq_decide.mpr ⟨fun e => by cases e; rfl, fun e => by rw [e]⟩
theorem feed_dec {c : Nat} : decide (V.str ⟨#[c]⟩ = V.str (Str.ofString "\n")) = decide (c = 10) := by rw [feed_eq, sign_dec]
theorem blank_dec {c : Nat} : decide (V.str ⟨#[c]⟩ = V.str (Str.ofString " ")) = decide (c = 32) := by rw [blank_eq, sign_dec]
theorem ends_dec {c : Nat} : decide (c ∈ (Str.ofString " \n").cps.toList) = decide (c = 32 ∨ c = 10) := by
  rw [ends_eq]
  exact decide_eq_decide.mpr (by simp [sO])
theorem sO_append (a b : List Nat) : sO a ++ sO b = sO (a ++ b) := by
  show (⟨a.toArray ++ b.toArray⟩ : Str) = ⟨(a ++ b).toArray⟩
  simp
theorem sO_len (l : List Nat) : (sO l).length = l.length := by
  show l.toArray.size = _
  rw [List.size_toArray]
theorem cutS_take (l : List Nat) (m : Nat) : cutS (sO l) none (some (m : Int)) = sO (l.take m) := by
  unfold cutS
  rw [HT.sIx_none, HT.sIx_nat, Nat.sub_zero, List.drop_zero, sO_len]
  show sO (l.take (min m l.length)) = _
  by_cases h : m ≤ l.length
  · rw [Nat.min_eq_left h]
  · rw [Nat.min_eq_right (by omega), List.take_of_length_le (Nat.le_refl _), List.take_of_length_le (by omega)]
end My

/-! ### own errors -/
namespace My
open PySem PySem.Spec PyProof.Rows L2
structure Ex (K : PySem.W.Frag) (mg : Str → Option Value) (x : Str) where
  C : Addr
  g : mg x = some (.ref C)
  x : PySem.W.excIn K C [.type "ValueError", .type "Exception", .type "BaseException", .type "object"] "ValueError.__new__" = true
  k : PySem.W.keepIn K (.ref C) = true
  b : PySem.W.subIn K (.ref C) (.type "BaseException") = some true
  t : PySem.W.typeIn K (.ref C) = some (.type "type")
  E : ExcC K C
def ex_mk {K : PySem.W.Frag} {mg : Str → Option Value} {x : Str} {h : Heap} (X : K.In h) (G : h.Ns mainGlobals mg) {C : Addr} (g : PySem.W.nsIn K mainGlobals x = some (some (.ref C)))
    (x1 : PySem.W.excIn K C [.type "ValueError", .type "Exception", .type "BaseException", .type "object"] "ValueError.__new__" = true) (x2 : PySem.W.keepIn K (.ref C) = true) (x3 : PySem.W.subIn K (.ref C) (.type "BaseException") = some true) (x4 : PySem.W.typeIn K (.ref C) = some (.type "type"))
    (y1 : PySem.W.findIn K (.ref C) "__getattribute__" = some (some (.builtin "BaseException.__getattribute__"))) (y2 : PySem.W.findIn K (.ref C) "__getattr__" = some none) (y3 : PySem.W.hasDictIn K C = true) (y4 : PySem.W.findIn K (.ref C) "__class__" = some (some (.builtin "object.__class__")))
    (y5 : PySem.W.specialIn K (.builtin "object.__class__") "__get__" = some (some (.builtin "getset_descriptor.__get__"))) (y6 : PySem.W.takesIn K (.builtin "object.__class__") = some true) (y7 : PySem.W.mroIn K C (.type "object") = some true) : Ex K mg x :=
  ⟨C, PySem.W.mg_of X G g, x1, x2, x3, x4, ⟨y1, y2, x3, y3, y4, y5, y6, y7⟩⟩
section
variable {K : PySem.W.Frag} {mg : Str → Option Value} {x y : Str} {cv : Value} {b : Bool}
theorem Ex.exm (e : Ex K mg x) (h : PySem.W.subIn K cv (.ref e.C) = some b) : PySem.W.exmOne K cv (.ref e.C) = some b := PySem.W.exm_ref e.b e.E.hd e.t h
theorem Ex.kcls (e : Ex K mg x) (h : PySem.W.subIn K cv (.ref e.C) = some b) : PySem.W.kitCls K cv (.ref e.C) = some b := by
  have hc : (PySem.W.clsIn K e.C).isSome = true := by
    have := e.E.hd
    unfold PySem.W.hasDictIn at this
    cases q : PySem.W.clsIn K e.C with
    | none => rw [q] at this; cases this
    | some c => rfl
  have e2 : ((PySem.W.clsIn K e.C).isSome && PySem.W.typeIn K (.ref e.C) == some (.type "type")) = true := by rw [hc, e.t] <;> rfl
  show (if ((PySem.W.clsIn K e.C).isSome && PySem.W.typeIn K (.ref e.C) == some (.type "type")) = true then PySem.W.subIn K cv (.ref e.C) else none) = some b
  rw [if_pos e2]
  exact h
/-- isinstance of an error's class: by the chains of the two classes -/
theorem Ex.kit (d : Ex K mg y) (e : Ex K mg x) (s : PySem.W.subIn K (.ref d.C) (.ref d.C) = some true) (h : PySem.W.subIn K (.ref d.C) (.ref e.C) = some b) : PySem.W.kitOne K (.ref d.C) (.ref e.C) = some b := by
  unfold PySem.W.kitOne
  split
  · next q =>
    have z : (Value.ref d.C) = .ref e.C := beq_iff_eq.mp q
    rw [← z, s] at h
    cases h
    rfl
  · exact e.kcls h
theorem Ex.kitT (d : Ex K mg y) {n : String} (h : PySem.W.subIn K (.ref d.C) (.type n) = some b) (m : PySem.W.kitMeta n = true := by decide +kernel) : PySem.W.kitOne K (.ref d.C) (.type n) = some b := by
  unfold PySem.W.kitOne
  split
  · next q =>
    have z : (Value.ref d.C) = .type n := beq_iff_eq.mp q
    cases z
  · show (if PySem.W.kitMeta n = true then PySem.W.subIn K (.ref d.C) (.type n) else none) = some b
    rw [if_pos m]
    exact h
end
/-- an error class that is only asked about -/
structure Ec (K : PySem.W.Frag) (mg : Str → Option Value) (x : Str) where
  C : Addr
  g : mg x = some (.ref C)
  t : PySem.W.typeIn K (.ref C) = some (.type "type")
  d : PySem.W.hasDictIn K C = true
def ec_mk {K : PySem.W.Frag} {mg : Str → Option Value} {x : Str} {h : Heap} (X : K.In h) (G : h.Ns mainGlobals mg) {C : Addr} (g : PySem.W.nsIn K mainGlobals x = some (some (.ref C)))
    (x1 : PySem.W.typeIn K (.ref C) = some (.type "type")) (x2 : PySem.W.hasDictIn K C = true) : Ec K mg x := ⟨C, PySem.W.mg_of X G g, x1, x2⟩
theorem Ex.kitC {K : PySem.W.Frag} {mg : Str → Option Value} {x y : Str} {b : Bool} (d : Ex K mg y) (e : Ec K mg x) (s : PySem.W.subIn K (.ref d.C) (.ref d.C) = some true) (h : PySem.W.subIn K (.ref d.C) (.ref e.C) = some b) : PySem.W.kitOne K (.ref d.C) (.ref e.C) = some b := by
  unfold PySem.W.kitOne
  split
  · next q =>
    have z : (Value.ref d.C) = .ref e.C := beq_iff_eq.mp q
    rw [← z, s] at h
    cases h
    rfl
  · have hc : (PySem.W.clsIn K e.C).isSome = true := by
      have := e.d
      unfold PySem.W.hasDictIn at this
      cases q : PySem.W.clsIn K e.C with
      | none => rw [q] at this; cases this
      | some c => rfl
    have e2 : ((PySem.W.clsIn K e.C).isSome && PySem.W.typeIn K (.ref e.C) == some (.type "type")) = true := by rw [hc, e.t] <;> rfl
    show (if ((PySem.W.clsIn K e.C).isSome && PySem.W.typeIn K (.ref e.C) == some (.type "type")) = true then PySem.W.subIn K (.ref d.C) (.ref e.C) else none) = some b
    rw [if_pos e2]
    exact h
/-- isinstance(e, c) in a suite, the error's class told in the reading -/
def rIsX (K : PySem.W.Frag) (cls : Value) (d : Option Addr) (a : Addr) : List V → Hp → VK → Prop := fun xs H Q => ∃ (D : Addr) (c : V) (cv : Value) (b : Bool), cls = .ref D ∧ d = none ∧ ExcC K D ∧ xs = [.ref a, c] ∧ (∀ u, RelV c u → u = cv) ∧ PySem.W.kitOne K (.ref D) cv = some b ∧ Q (.bl b) H
theorem call_isX {X : Cx} {a : Addr} {cls : Value} {d : Option Addr} {oe : Obj} {pn : List (Addr × Obj)} (hz : Zc cls d oe) (hf : ∃ vs, oe.data = .fields vs) : CallR (X.suite a ((a, oe) :: pn)) (.builtin "isinstance") (rIsX X.K cls d a) := by
  intro pins s σ H xs us Q I r h
  obtain ⟨D, c, cv, b, rfl, rfl, C, e, hc, hk, q⟩ := h
  exact call_isE C hz hf pins s σ H xs us Q I r ⟨c, cv, b, e, hc, hk, q⟩
section
variable {X : Cx}
/-- [..].count(x), of flat ones -/
def rCntF (K : PySem.W.Frag) : V → List V → Hp → VK → Prop := fun x xs H Q => ∃ (a : Addr) (ys : List V) (y : V), x = .ref a ∧ xs = [y] ∧ SqL K H a ys ∧ flatV y = true ∧ ys.all flatV = true ∧ Q (.int (ys.countP (fun z => eqV z y) : Nat)) H
theorem cnt_flat {y : V} : ∀ {us : List Value} {ys : List V}, Vals ys us → ys.all flatV = true → us.countP (eqU y) = ys.countP (fun z => eqV z y)
  | _, _, .nil, _ => rfl
  | _, _, .cons r t, f => by
    rw [List.all_cons, Bool.and_eq_true] at f
    rw [List.countP_cons, List.countP_cons, cnt_flat t f.2, eqU_of r f.1]
theorem mt_countF : MtR X "list.count" (rCntF X.K) := by
  intro pins s σ H x xs v us Q I rx rxs h
  obtain ⟨a, ys, y, rfl, rfl, hs, fy, fys, q⟩ := h
  cases rx
  cases rxs with
  | cons ry rt =>
    rename_i uy ut
    cases rt
    obtain ⟨its, rv, ⟨⟨cls, dd, data, sl⟩, n, ho, hc, hdn, hd⟩, hlen⟩ := I.list hs
    simp only at hc hd
    subst hc hd
    refine call_meets PySem.F.slot_list_count ⟨_, ho, rfl⟩ PySem.F.entry_list_count (PySem.F.args_list_count_2 _ _)
      (SeqAt.list_countAt a its.toArray n dd sl uy (eqU y)) ⟨ho, fun u' hu' => mem_eqAt ry fy rv fys u' (by simpa using hu'), ?_⟩
    refine ⟨.int (ys.countP (fun z => eqV z y) : Nat), H, I.tok _, ⟨s.toks, ?_⟩, q⟩
    show Value.int ((its.toArray.toList.countP (eqU y) : Nat) : Int) s.toks = Value.int ((ys.countP (fun z => eqV z y) : Nat) : Int) s.toks
    rw [show its.toArray.toList = its from rfl, cnt_flat rv fys]
theorem mt_countFK {K : PySem.W.Frag} (h : X.K = K) : MtR X "list.count" (rCntF K) := by subst h; exact mt_countF
theorem mt_indexK {K : PySem.W.Frag} (h : X.K = K) : MtR X "list.index" (L2.rIndex K) := by subst h; exact mt_index
theorem pe_bmK {K : PySem.W.Frag} {T name id : String} {r : V → List V → Hp → VK → Prop} {o e : Expr} {es : List Expr} {to : TE} {t : TA} {apos cpos : Pos} (h : X.K = K) (pa : PlainAttrs T) (slot : Slot T name id) (hty : typeOf (.builtin id) = pure (.type "method_descriptor")) (hm : MtR X id r) (ho : PE X o to) (ha : PA X (e :: es) t)
    (hbase : attributeBase o name X.env (eval o X.env) = eval o X.env := by rfl)
    (hfew : ((backTo cpos (starEach (e :: es) X.env)).all (fun x => !x.1) && (backToKw cpos (keywordEach [] X.env)).all (fun x => x.1.isSome)
      && decide ((e :: es).length + ([] : List Keyword).length + (if ([] : List Keyword).isEmpty then 0 else 1) < 30)) = true := by rfl)
    (hline : (apos.endLine == cpos.line) = true := by rfl) (hs : starEach (e :: es) X.env = (false, eval e X.env) :: starEach es X.env := by rfl) (hplain : (backTo cpos (starEach es X.env)).any (·.1) = false := by rfl) :
    PE X (.Call (.Attribute o name apos) (e :: es) [] cpos) (tBM K T r to t) := by
  subst h
  exact pe_bm pa slot hty hm ho ha hbase hfew hline hs hplain
theorem op_eqVK {K : PySem.W.Frag} (hu : X.A.units + 64 < cLine) (h : X.K = K) : OpR X (compareOp .Eq) (rEqV K) := by subst h; exact op_eqV hu
end
end My

/-! ### defs with keyword-only defaults -/
namespace My
open PySem PySem.Spec PyProof.Rows L2
structure DfK (K : PySem.W.Frag) (mg : Str → Option Value) (x : Str) (st : Stmt) (ps : List Str) (kws : List (Str × V)) where
  f : Addr
  fd : FuncData
  FD : FunD K x x (defArgs st) (defBody st) (defScope st) [] kws f fd
  bx : ∃ ds, Vals (kws.map (·.2)) ds ∧ Binds K fd ps ds
  g : mg x = some (.ref f)
section
variable {K : PySem.W.Frag} {mg : Str → Option Value} {x : Str} {st : Stmt} {ps : List Str} {kws : List (Str × V)}
theorem DfK.F (d : DfK K mg x st ps kws) : Fun K x x st d.f d.fd := by
  obtain ⟨oc, od, dV, kV, doc, pm, an, cdv, ct, osl, e, l, c, hd, _⟩ := d.FD.ex
  rcases hd with ⟨_, e2⟩ | ⟨e2, _⟩
  · subst e2
    exact ⟨⟨oc, od, kV, doc, pm, an, cdv, ct, osl, e, l, c⟩, d.FD.kp⟩
  · exact absurd rfl e2
theorem DfK.v (d : DfK K mg x st ps kws) : Vals (kws.map (·.2)) (Classical.choose d.bx) := (Classical.choose_spec d.bx).1
theorem DfK.b (d : DfK K mg x st ps kws) : Binds K d.fd ps (Classical.choose d.bx) := (Classical.choose_spec d.bx).2
def dfK_mk {h : Heap} (X : K.In h) (G : h.Ns mainGlobals mg) {f D : Addr} {oc : Value} {od an : Option Addr} {osl : Array (Option Value)} {doc pm cdv ct u : Value} {y : Str} {v : V} (n : Nat)
    (a : PySem.W.nsIn K mainGlobals x = some (some (.ref f))) (l : K.lookup f = some ⟨oc, od, .func (PySem.W.fnOf x x (defArgs st) (defBody st) (defScope st) .none (.ref D) doc pm an cdv ct), osl⟩)
    (c : PySem.W.codeIn K cdv x = true) (k : PySem.W.keepIn K (.ref f) = true) (e : PySem.W.nsIn K D y = some (some u)) (rv : RelV v u) (hn : n + 1 = ps.length)
    (hb : ∀ (D : Addr) (doc pm : Value) (an : Option Addr) (cdv ct : Value) (us ks : List Value), us.length = n → ks.length = 1 →
      KwChain D ([y].zip ks) (bindArgs (PySem.W.fnOf x x (defArgs st) (defBody st) (defScope st) .none (.ref D) doc pm an cdv ct) ⟨us, []⟩) (ps.zip (us ++ ks))) : DfK K mg x st ps [(y, v)] :=
  have F : FunD K x x (defArgs st) (defBody st) (defScope st) [] [(y, v)] f (PySem.W.fnOf x x (defArgs st) (defBody st) (defScope st) .none (.ref D) doc pm an cdv ct) := ⟨⟨oc, od, .none, .ref D, doc, pm, an, cdv, ct, osl, rfl, l, c, .inl ⟨rfl, rfl⟩, .inr ⟨D, rfl, fun q hq => by rw [List.mem_singleton.mp hq]; exact ⟨u, e, rv⟩⟩⟩, k⟩
  ⟨f, _, F, F.binds0 n (by intro z; cases z) hn hb, PySem.W.mg_of X G a⟩
end
/-! ### a call by keywords in a try's body -/
def tCallNS (n m : Nat) (sp : Sp) (gV : List V → List V → List V) (E : L2.St → XK) (t tk : TA) : TE := fun σ H Q => t σ H fun vs H1 => tk σ H1 fun zs H2 => vs.length = n ∧ zs.length = m ∧ sp (gV vs zs) H2 Q (E σ)
section
variable {X : Cx} {CX : CXT} {k n : Nat} {f : Addr} {fd : FuncData} {ps ks : List Str} {sp : Sp} {E : L2.St → XK} {x : Str} {p pos : Pos} {e : Expr} {es : List Expr} {kws : List Keyword} {t tk : TA} {g : List Value → List Value → List Value} {gV : List V → List V → List V}
theorem run_fnNS {pins : List (Addr × Obj)} {σ : L2.St} {H : Hp} {s : Shared} {Q : VK} {us ws : List Value} {vs zs : List V} (F : FnOk X.prog X.w X.K X.mg X.base CX k f fd ps sp) (hr : Room k X.A) (hb : KBn X.K fd ps n ks g gV) (hx : PassesAt CX X σ (E σ))
    (I : Inv X pins σ H s) (r : Vals vs us) (rz : Vals zs ws) (l1 : vs.length = n) (l2 : zs.length = ks.length) (h : sp (gV vs zs) H Q (E σ)) : wpAny (model X.prog X.w) X.A (call (.ref f) us (ks.zip ws)) (EP X pins σ Q) X.xe s := by
  have r2 := hb.rel r rz
  refine wpAny_call (codeAny_mono (F.run X.A X.stack s H ⟨us, ks.zip ws⟩ (g us ws) (gV vs zs) Q (E σ) hr I.env0 (hb.to s us ws I.kIn (r.length.symm.trans l1) (rz.length.symm.trans l2)) r2 h) fun r s' hq => ?_)
  cases r with
  | error e => exact hx pins H s e s' I hq
  | ok fl =>
    cases fl with
    | ret u => exact I.after hq
    | next => exact False.elim hq
    | brk => exact False.elim hq
    | cont => exact False.elim hq
theorem pe_callNS (F : FnOk X.prog X.w X.K X.mg X.base CX k f fd ps sp) (hr : Room k X.A) (hg : Gl X x) (hm : X.mg x = some (.ref f)) (hk : PySem.W.keepIn X.K (.ref f) = true) (hb : KBn X.K fd ps n ks g gV) (hx : ∀ σ, PassesAt CX X σ (E σ))
    (ha : PA X (e :: es) t) (hkw : PK X kws tk) (hall : (backToKw pos (keywordEach kws X.env)).all (·.1.isSome) = true := by rfl) (hks : (backToKw pos (keywordEach kws X.env)).filterMap (·.1) = ks := by rfl)
    (hdb : (x == ("__debug__" : Str)) = false := by decide) (he : starEach (e :: es) X.env = (false, eval e X.env) :: starEach es X.env := by rfl)
    (hpl : ((backTo pos (starEach (e :: es) X.env)).any (·.1) || (backToKw pos (keywordEach kws X.env)).any (·.1.isNone)) = false := by rfl) :
    PE X (.Call (.Name x p) (e :: es) kws pos) (tCallNS n ks.length sp gV E t tk) := by
  refine ⟨fun pins s σ H Q I h => ?_⟩
  refine wpAny_Call_Name_kw (ld_glob I hg hm ?_ hdb)
  refine PySem.W.callWith_KW (h₀ := X.base) I.ok.mod.kin hk hall (thn (ha.run pos pins s σ H _ I h) fun us s1 ⟨vs, H1, I1, r, q⟩ => ?_) hpl he
  refine thn (hkw.run pos pins s1 σ H1 _ I1 q) fun ws s2 ⟨zs, H2, I2, rz, l1, l2, q2⟩ => ⟨I2.kIn, ?_⟩
  rw [hks]
  exact run_fnNS F hr hb (hx σ) I2 r rz l1 l2 q2
end
/-- a tuple that stands ahead -/
theorem sqT_K {K : PySem.W.Frag} {a : Addr} {o : Obj} {its : Array Value} {n : Nat} {xs : List V} (l : K.lookup a = some o) (c : o.cls = .type "tuple") (d : o.data = .seq its n) (z : its.size ≤ sizeLine) (r : Vals xs its.toList) (H : Hp) : SqT K H a xs := .inr ⟨o, its, n, l, c, d, z, r⟩
theorem SqT.tyx {K : PySem.W.Frag} {H : Hp} {a : Addr} {xs : List V} (h : SqT K H a xs) : TyX K H (.ref a) (.type "tuple") := by
  rcases h with (h | ⟨o, h⟩) | ⟨o, its, n, l, c, _⟩
  · exact .base (.tup h)
  · exact .fTuple h
  · exact .kTuple l c
/-- isinstance(x, tuple), of a tuple that stands ahead, too -/
def rIsTup (K : PySem.W.Frag) : List V → Hp → VK → Prop := fun xs H Q => (∃ x t, xs = [x, .ty "tuple"] ∧ Ty7 H x t ∧ Q (.bl (decide (t = "tuple"))) H) ∨ ∃ a ys, xs = [.ref a, .ty "tuple"] ∧ SqT K H a ys ∧ Q (.bl true) H
theorem call_isTup {X : Cx} : CallR X (.builtin "isinstance") (rIsTup X.K) := by
  intro pins s σ H xs us Q I r h
  rcases h with ⟨x, t, e, h7, q⟩ | ⟨a, ys, e, hs, q⟩
  · exact is_tuple pins s σ H xs us Q I r ⟨x, t, e, h7, q⟩
  · exact call_isi pins s σ H xs us Q I r ⟨_, _, _, _, _, e, .ty _, SqT.tyx hs, kit_ty (by decide +kernel), q⟩
theorem call_isTupK {X : Cx} {K : PySem.W.Frag} (h : X.K = K) : CallR X (.builtin "isinstance") (rIsTup K) := h ▸ call_isTup
end My

/-! ### own classes whose __init__ has keyword-only defaults -/
namespace My
open PySem PySem.Spec PyProof.Rows L2 RZ
structure Cl (K : PySem.W.Frag) (mg : Str → Option Value) (x : Str) where
  C : Addr
  g : mg x = some (.ref C)
  cls : Cls K C
def cl_mk {K : PySem.W.Frag} {mg : Str → Option Value} {x : Str} {h : Heap} (X : K.In h) (G : h.Ns mainGlobals mg) {C : Addr} (a : PySem.W.nsIn K mainGlobals x = some (some (.ref C)))
    (pg : PySem.W.plainGet K C Str.empty = true) (hd : PySem.W.hasDictIn K C = true) (po : PySem.W.plainOver K C = true) (sa : PySem.W.findIn K (.ref C) "__setattr__" = some (some (.builtin "object.__setattr__"))) : Cl K mg x :=
  ⟨C, PySem.W.mg_of X G a, ⟨pg, hd, po, sa⟩⟩
inductive KwIn (K : PySem.W.Frag) (D : Addr) : List (Str × V) → Prop
  | nil : KwIn K D []
  | cons {y : Str} {v : V} {u : Value} {l : List (Str × V)} (e : PySem.W.nsIn K D y = some (some u)) (r : RelV v u) (t : KwIn K D l) : KwIn K D ((y, v) :: l)
theorem KwIn.all {K : PySem.W.Frag} {D : Addr} : ∀ {l : List (Str × V)}, KwIn K D l → ∀ q ∈ l, ∃ u, PySem.W.nsIn K D q.1 = some (some u) ∧ RelV q.2 u
  | _, .nil, q, h => by cases h
  | _, .cons e r t, q, h => by
    rcases List.mem_cons.mp h with rfl | h
    · exact ⟨_, e, r⟩
    · exact t.all q h
structure Ini (K : PySem.W.Frag) (q : Str) (st : Stmt) (C : Addr) (kws : List (Str × V)) where
  f : Addr
  fd : FuncData
  FD : FunD K "__init__" q (defArgs st) (defBody st) (defScope st) [] kws f fd
  mks : Mk K C f
theorem Ini.F {K : PySem.W.Frag} {q : Str} {st : Stmt} {C : Addr} {kws : List (Str × V)} (d : Ini K q st C kws) : Fun K "__init__" q st d.f d.fd := by
  obtain ⟨oc, od, dV, kV, doc, pm, an, cdv, ct, osl, e, l, c, hd, _⟩ := d.FD.ex
  rcases hd with ⟨_, e2⟩ | ⟨e2, _⟩
  · subst e2
    exact ⟨⟨oc, od, kV, doc, pm, an, cdv, ct, osl, e, l, c⟩, d.FD.kp⟩
  · exact absurd rfl e2
def ini_mk {K : PySem.W.Frag} {q : Str} {st : Stmt} {C : Addr} {kws : List (Str × V)} {f D : Addr} {oc : Value} {od an : Option Addr} {osl : Array (Option Value)} {doc pm cdv ct : Value}
    (i : PySem.W.findIn K (.ref C) "__init__" = some (some (.ref f))) (m : PySem.W.makesIn K C = true) (fn : PySem.W.isFn K (.ref f) = true) (kc : PySem.W.keepIn K (.ref C) = true)
    (l : K.lookup f = some ⟨oc, od, .func (PySem.W.fnOf "__init__" q (defArgs st) (defBody st) (defScope st) .none (.ref D) doc pm an cdv ct), osl⟩) (c : PySem.W.codeIn K cdv q = true) (k : PySem.W.keepIn K (.ref f) = true) (kw : KwIn K D kws) : Ini K q st C kws :=
  ⟨f, _, ⟨⟨oc, od, .none, .ref D, doc, pm, an, cdv, ct, osl, rfl, l, c, .inl ⟨rfl, rfl⟩, .inr ⟨D, rfl, kw.all⟩⟩, k⟩, ⟨m, i, fn, kc⟩⟩
/-- one of a list, as a list -/
def pick1 {α : Type} (i : Nat) (l : List α) : List α := (l.drop i).take 1
theorem vals_pick {xs : List V} {us : List Value} (r : Vals xs us) (i : Nat) : Vals (pick1 i xs) (pick1 i us) := (r.drop i).take 1
/-! #### o.f as a target among others -/
def gFld (K : PySem.W.Frag) (to : TE) (f : Str) : TG := fun y σ H Q => to σ H fun x H2 => ∃ a C dx fs, x = .ref a ∧ H2 a = some (.ins C dx fs) ∧ Cls K C ∧ NoAttr K C f ∧ fs.length < 1000 ∧ Q σ (upd H2 a (.ins C dx (putF f y fs)))
theorem pg_fld {X : Cx} {o : Expr} {f : Str} {pos : Pos} {to : TE} (ho : PE X o to) : PG X (.Attribute o f pos) (gFld X.K to f) := by
  refine ⟨fun pins s σ H v u Q I r h => ?_⟩
  rw [assign_Attribute]
  refine wpAny_bind (wpAny_holding (thn (ho.run pins s σ H _ I h) fun ov s2 ⟨x, H2, I2, rx, a, C, dx, fs, ex, ea, c, n, l, q2⟩ => ?_))
  subst ex
  obtain rfl : ov = Value.ref a := rx
  exact wpAny_bind (wpAny_standAt (wpAny_bind (wpAny_holding (setattr_ok I2 ea c n l r fun s3 I3 => wpAny_release ⟨σ, _, I3, q2⟩))))
theorem pg_fldK {X : Cx} {K : PySem.W.Frag} (h : X.K = K) {o : Expr} {f : Str} {pos : Pos} {to : TE} (ho : PE X o to) : PG X (.Attribute o f pos) (gFld K to f) := h ▸ pg_fld ho
/-! #### zip of two tuples -/
theorem pi_zipAK {X : Cx} {K : PySem.W.Frag} (h : X.K = K) {e e2 : Expr} {ta : TA} {p pos tpos : Pos} {elts : List Expr} {kk : Nat} (hg : Gl X "zip") (hm : X.mg "zip" = none) (ha : PA X [e, e2] ta)
    (he : starEach [e, e2] X.env = (false, eval e X.env) :: starEach [e2] X.env := by rfl) (hpl : (backTo pos (starEach [e2] X.env)).any (·.1) = false := by rfl) : PI X (.Tuple elts kk tpos) (.Call (.Name "zip" p) [e, e2] [] pos) (iZipA K ta) := h ▸ pi_zipA hg hm ha he hpl
section
variable {K : PySem.W.Frag} {g : TG} {tt : TT} {te : TE} {vs : List Nat} {σ : L2.St} {H1 : Hp} {D a b : Addr} {Qd : Hp → Prop} {xs zs : List V} {n : Nat}
theorem lcZT (hlen : xs.length = zs.length) (P : Nat → List V → Hp → Prop) (h0 : ∀ H', Same H1 H' → H' D = some (.lst []) → P 0 [] H') (hD : H1 D = none) (hl : ∀ i acc H, P i acc H → SqT K H a xs ∧ SqT K H b zs)
    (hs : ∀ i x z acc H T H' Kt Kf, xs[i]? = some x → zs[i]? = some z → P i acc H → H D = some (.lst acc) → H T = none → Same H H' → H' T = some (.tup [x, z]) → LcK D (P (i + 1)) acc Kt Kf → LcT g tt te vs σ (.ref T) H' Kt Kf)
    (hd : ∀ acc H, P xs.length acc H → H D = some (.lst acc) → Qd H) : LcG (ItzT K a b) g tt te vs σ H1 D Qd := by
  refine ⟨fun i m H => m = xs.length - i ∧ i ≤ xs.length ∧ ∃ acc, H D = some (.lst acc) ∧ P i acc H, ⟨xs.length, rfl, Nat.zero_le _, [], upd_same, h0 _ (Same.upd0 hD) upd_same⟩, ?_⟩
  rintro i m H ⟨rfl, hi, acc, e, p⟩
  obtain ⟨q1, q2⟩ := hl i acc H p
  by_cases hlt : i < xs.length
  · have hlt2 : i < zs.length := by omega
    refine .inr ⟨⟨xs, zs, xs[i], zs[i], q1, q2, by simp [hlt], by simp [hlt2]⟩, fun H => ∃ acc, H D = some (.lst acc) ∧ P (i + 1) acc H, fun H' p' => ⟨xs.length - (i + 1), by omega, rfl, hlt, p'⟩, fun v H' y => ?_⟩
    obtain ⟨T, x, z, rfl, nT, rfl, hx, hz⟩ := y
    exact hs i x z acc H T _ _ _ (hx xs q1) (hz zs q2) p e nT (Same.upd0 nT) upd_same ⟨fun y H4 e4 z k => ⟨acc, e4, z, acc ++ [y], upd_same, k _ But.refl.upd upd_same⟩, fun H3 e3 k => ⟨acc, e3, k⟩⟩
  · have ei : i = xs.length := by omega
    subst ei
    exact .inl ⟨⟨xs, zs, q1, q2, .inl (Nat.le_refl _)⟩, hd acc H p e⟩
/-- .. all the same thing -/
theorem lcZTc (v : V) (hlen : xs.length = zs.length) (hD : H1 D = none) (ha : SqT K H1 a xs) (hb : SqT K H1 b zs) (hz : xs.length ≤ 100000)
    (hs : ∀ (i : Nat) (x z : V) (T : Addr) (H' : Hp) (Kt : V → Hp → Prop) (Kf : Hp → Prop), xs[i]? = some x → zs[i]? = some z → Same H1 H' → H' T = some (.tup [x, z]) → (∀ H4, Same H' H4 → Kt v H4) → LcT g tt te vs σ (.ref T) H' Kt Kf)
    (hd : ∀ H, Same H1 H → H D = some (.lst (List.replicate xs.length v)) → Qd H) : LcG (ItzT K a b) g tt te vs σ H1 D Qd :=
  lcZT hlen (fun i acc H => acc = List.replicate i v ∧ Same H1 H) (fun H' s _ => ⟨rfl, s⟩) hD (fun i acc H p => ⟨Same.seqT p.2 ha, Same.seqT p.2 hb⟩)
    (fun i x z acc H T H' Kt Kf hx hz' p e nT s gT k => by
      obtain ⟨rfl, sm⟩ := p
      have hi := (List.getElem?_eq_some_iff.mp hx).1
      refine hs i x z T H' Kt Kf hx hz' (sm.trans s) gT fun H4 s4 => k.yes v H4 (s4 _ _ (s _ _ e)) (by rw [List.length_replicate, sizeLine_eq]; omega) fun H5 b5 _ => ⟨List.replicate_succ'.symm, Same.mut' ((sm.trans s).trans s4) b5 hD⟩)
    (fun acc H p e => hd H p.2 (by rw [← p.1]; exact e))
end
end My

/-! ### making instances where the __init__ may raise; isinstance of own instances -/
namespace My
open PySem PySem.Spec PyProof.Rows L2
def tMakeKS (C : Addr) (n m : Nat) (sp : Sp) (gV : List V → List V → List V) (E : L2.St → XK) (t tk : TA) : TE := fun σ H Q => t σ H fun vs H1 => tk σ H1 fun zs H2 => vs.length = n ∧ zs.length = m ∧ ∀ x dx, H2 x = none → H2 dx = none → dx ≠ x →
  sp (gV (.ref x :: vs) zs) (upd (upd H2 dx (.own x)) x (.ins C dx [])) (fun v H3 => v = .non ∧ Q (.ref x) H3) (E σ)
section
variable {X : Cx} {CX : CXT} {k n : Nat} {f C : Addr} {fd : FuncData} {ps ks : List Str} {sp : Sp} {E : L2.St → XK} {x : Str} {p pos : Pos} {e : Expr} {es : List Expr} {kws : List Keyword} {t tk : TA} {g : List Value → List Value → List Value} {gV : List V → List V → List V}
theorem run_makeKS {pins : List (Addr × Obj)} {σ : L2.St} {H : Hp} {s : Shared} {Q : VK} {us ws : List Value} {vs zs : List V} (M : Mk X.K C f) (F : FnOk X.prog X.w X.K X.mg X.base CX k f fd ps sp) (hr : Room (k + 1) X.A) (hb : KBn X.K fd ps (n + 1) ks g gV) (hx : PassesAt CX X σ (E σ))
    (I : Inv X pins σ H s) (r : Vals vs us) (rz : Vals zs ws) (l1 : vs.length = n) (l2 : zs.length = ks.length)
    (h : ∀ x dx, H x = none → H dx = none → dx ≠ x → sp (gV (.ref x :: vs) zs) (upd (upd H dx (.own x)) x (.ins C dx [])) (fun v H2 => v = .non ∧ Q (.ref x) H2) (E σ)) :
    wpAny (model X.prog X.w) X.A (call (.ref C) us (ks.zip ws)) (EP X pins σ Q) X.xe s := by
  have hq := h (s.heap.objs.size + 1) s.heap.objs.size (I.hok.fresh (Nat.le_succ _)) (I.hok.fresh (Nat.le_refl _)) (Nat.ne_of_lt (Nat.lt_succ_self _))
  have I2 := Inv.made (C := C) I
  have r1 : Vals (V.ref (s.heap.objs.size + 1) :: vs) (Value.ref (s.heap.objs.size + 1) :: us) := .cons rfl r
  have r2 := hb.rel r1 rz
  have n1 : (Value.ref (s.heap.objs.size + 1) :: us).length = n + 1 := by
    rw [List.length_cons, ← r.length, l1]
  refine wpAny_call (make_map (f := f) I.kIn M.makes M.init (beq_iff_eq.mp M.fn) (codeAny_mono (F.run _ X.stack _ _ ⟨Value.ref (s.heap.objs.size + 1) :: us, ks.zip ws⟩ (g (Value.ref (s.heap.objs.size + 1) :: us) ws) _ _ (E σ) (hr.make C us (ks.zip ws))
    (I2.env0.make C us (ks.zip ws)) (hb.to _ (Value.ref (s.heap.objs.size + 1) :: us) ws I2.kIn n1 (rz.length.symm.trans l2)) r2 hq) fun r s' hq' => ?_))
  cases r with
  | error e => exact hx pins _ _ e s' I2 hq'
  | ok fl =>
    cases fl with
    | ret u =>
      obtain ⟨v, H', I3, rv, ev, q3⟩ := I2.after hq'
      subst ev
      exact ⟨rv, ⟨V.ref (s.heap.objs.size + 1), H', I3, rfl, q3⟩⟩
    | next => exact False.elim hq'
    | brk => exact False.elim hq'
    | cont => exact False.elim hq'
/-- C(e, .., k = v, ..) in a try's body -/
theorem pe_makeKS (M : Mk X.K C f) (F : FnOk X.prog X.w X.K X.mg X.base CX k f fd ps sp) (hr : Room (k + 1) X.A) (hg : Gl X x) (hm : X.mg x = some (.ref C)) (hb : KBn X.K fd ps (n + 1) ks g gV) (hx : ∀ σ, PassesAt CX X σ (E σ)) (ha : PA X (e :: es) t) (hkw : PK X kws tk)
    (hall : (backToKw pos (keywordEach kws X.env)).all (·.1.isSome) = true := by rfl) (hks : (backToKw pos (keywordEach kws X.env)).filterMap (·.1) = ks := by rfl) (hdb : (x == ("__debug__" : Str)) = false := by decide)
    (he : starEach (e :: es) X.env = (false, eval e X.env) :: starEach es X.env := by rfl) (hpl : ((backTo pos (starEach (e :: es) X.env)).any (·.1) || (backToKw pos (keywordEach kws X.env)).any (·.1.isNone)) = false := by rfl) :
    PE X (.Call (.Name x p) (e :: es) kws pos) (tMakeKS C n ks.length sp gV E t tk) := by
  refine ⟨fun pins s σ H Q I h => ?_⟩
  refine wpAny_Call_Name_kw (ld_glob I hg hm ?_ hdb)
  refine PySem.W.callWith_KW (h₀ := X.base) I.ok.mod.kin M.kp hall (thn (ha.run pos pins s σ H _ I h) fun us s1 ⟨vs, H1, I1, r, q⟩ => ?_) hpl he
  refine thn (hkw.run pos pins s1 σ H1 _ I1 q) fun ws s2 ⟨zs, H2, I2, rz, l1, l2, q2⟩ => ⟨I2.kIn, ?_⟩
  rw [hks]
  exact run_makeKS M F hr hb (hx σ) I2 r rz l1 l2 q2
end
/-- the defaults of an __init__ called by places alone -/
theorem Ini.bx {K : PySem.W.Frag} {q : Str} {st : Stmt} {C : Addr} {kws : List (Str × V)} (d : Ini K q st C kws) {ps : List Str} (n : Nat) (hk : kws ≠ []) (hn : n + kws.length = ps.length)
    (h : ∀ (D : Addr) (doc pm : Value) (an : Option Addr) (cdv ct : Value) (us ks : List Value), us.length = n → ks.length = kws.length →
      KwChain D ((kws.map (·.1)).zip ks) (bindArgs (PySem.W.fnOf "__init__" q (defArgs st) (defBody st) (defScope st) .none (.ref D) doc pm an cdv ct) ⟨us, []⟩) (ps.zip (us ++ ks))) : ∃ ds, Vals (kws.map (·.2)) ds ∧ Binds K d.fd ps ds := d.FD.binds0 n hk hn h
/-- isinstance of an instance, by its class's chain -/
theorem kit_own {K : PySem.W.Frag} {C D : Addr} {b : Bool} (s : PySem.W.subIn K (.ref C) (.ref C) = some true) (h : PySem.W.subIn K (.ref C) (.ref D) = some b) (t : PySem.W.typeIn K (.ref D) = some (.type "type")) (hd : PySem.W.hasDictIn K D = true) : PySem.W.kitOne K (.ref C) (.ref D) = some b := by
  unfold PySem.W.kitOne
  split
  · next q =>
    have z : (Value.ref C) = .ref D := beq_iff_eq.mp q
    rw [← z, s] at h
    cases h
    rfl
  · have hc : (PySem.W.clsIn K D).isSome = true := by
      have := hd
      unfold PySem.W.hasDictIn at this
      cases q : PySem.W.clsIn K D with
      | none => rw [q] at this; cases this
      | some c => rfl
    have e2 : ((PySem.W.clsIn K D).isSome && PySem.W.typeIn K (.ref D) == some (.type "type")) = true := by rw [hc, t] <;> rfl
    show (if ((PySem.W.clsIn K D).isSome && PySem.W.typeIn K (.ref D) == some (.type "type")) = true then PySem.W.subIn K (.ref C) (.ref D) else none) = some b
    rw [if_pos e2]
    exact h
end My

/-! ### any(a list) in an except suite; lists of truths there -/
namespace My
open PySem PySem.Spec PyProof.Rows L2 HotX
section
variable {prog : Program} {w : World} {A : Around} {E : Value → Shared → Prop} {s : Shared}
theorem pyNext_list_end_hot {it l x1 : Addr} {i : Nat} {items : Array Value} {Q : Option Value → Shared → Prop} (hot : HotAt A x1 s.heap) (hne : x1 ≠ it)
    (hit : s.heap.IsListIter it l i) (hl : s.heap.IsList l items) (hx : items[i]? = none)
    (hQ : ∀ h', Heap.ExtBut it s.heap h' → Q none { s with heap := h' }) : wpAny (model prog w) A (pyNext (.ref it)) Q E s := by
  obtain ⟨o, ho, hc, hd⟩ := id hit
  obtain ⟨ol, hol, _, nl, hdl⟩ := hl
  obtain ⟨hh, o1, vs1, h1, d1, c1⟩ := hot
  unfold pyNext
  refine wpAny_bind (wpAny_attempt (wpAny_callSpecial?_slot (name := Str.ofString "__next__") hit.typeIs slot_listiter_next
    (wpAny_call_entry slot_listiter_next hit.typeIs entry_listiter_next ?_ (args_listiter_next _))))
  show wpAny _ _ (field (.ref it) 0 >>= _) _ _ s
  refine wpAny_bind (wpAny_field ho hd (x := .ref l) rfl ?_)
  show wpAny _ _ (if (Value.ref l == Value.none) = true then _ else _) _ _ s
  rw [if_neg (show ¬ ((Value.ref l == Value.none) = true) from Bool.false_ne_true)]
  show wpAny _ _ (field (.ref it) 1 >>= _) _ _ s
  refine wpAny_bind (wpAny_field ho hd (x := .int i 0) rfl ?_)
  show wpAny _ _ (seqItems? (.ref l) >>= _) _ _ s
  refine wpAny_bind (wpAny_seqItems hol hdl ?_)
  simp only [Int.toNat_natCast, hx]
  refine wpAny_bind (wpAny_rule (wpAny_bind (wpAny_setField ho hd (by simp) ?_)))
  show wpAny _ _ (newExc (.type "StopIteration") [] >>= _) _ _ _
  refine wpAny_bind ?_
  simp only [newExc, newTuple]
  refine wpAny_bind (wpAny_newObj_type ?_ (by size_fits))
  refine wpAny_bind (m := firstArgMember _ _) (wpAny_of_eq (a := Value.none) (by first | rfl | (simp only [firstArgMember]; rfl)) ?_)
  refine wpAny_newObj_type ?_ (by size_fits)
  have h1' : ∀ (o' : Obj) (f : Obj → Obj), (((s.heap.update it f).push o').get? x1 = some o1) := fun o' f => Heap.get?_push_of_some _ ((Heap.SameBut.update s.heap it f).extBut x1 o1 hne h1)
  refine raiseNew_hot ⟨hh, o1, vs1, Heap.get?_push_of_some _ (h1' _ _), d1, c1⟩ (Nat.ne_of_lt (Heap.lt_size (h1' _ _))) (Heap.get?_push_size _ rfl) rfl (by first | (simp; done) | (simp; omega) | (simp only [Array.size_append]; simp; omega)) ?_
  refine wpAny_bind (wpAny_isInstance (T := "StopIteration") (b := true) ⟨_, Heap.get?_update_self _ (Heap.get?_push_size _ rfl) rfl, rfl⟩ isSubtype_stop ?_)
  refine wpAny_pure (hQ _ fun b o nb e => ?_)
  have e2 := (Heap.SameBut.update s.heap it (Obj.mapFields (·.setIfInBounds 0 Value.none))).extBut b o nb e
  rw [Heap.get?_update_other _ _ (Nat.ne_of_gt (Heap.lt_size (Heap.get?_push_of_some _ e2)))]
  exact Heap.get?_push_of_some _ (Heap.get?_push_of_some _ e2)
/-- the object of a handled exception -/
def CtxAt (x1 : Addr) (h : Heap) : Prop := ∃ (o : Obj) (vs : Array Value), h.get? x1 = some o ∧ o.data = .fields vs ∧ vs[2]? = some .none
theorem walks_listH {x1 : Addr} (hh : A.handled = some (.ref x1)) (I ax : Addr) (hne : ax ≠ I) (hx : x1 ≠ I) (items : Array Value) :
    Walks prog w A I [I, ax, x1] [I] items.size (fun i v => items[i]? = some v) (fun i h => h.IsListIter I ax i ∧ h.IsList ax items ∧ CtxAt x1 h) where
  sub := fun b hb => by simp at hb; simp [hb]
  frame := fun _ _ _ st hk => ⟨st.1.at fun o e => hk I (by simp) o e, st.2.1.at fun o e => hk ax (by simp) o e, let ⟨o, vs, a, b, c⟩ := st.2.2; ⟨o, vs, hk x1 (by simp) o a, b, c⟩⟩
  item := fun i s Q E hi st hQ => by
    refine wpAny_pyNext_list_item st.1 st.2.1 (x := items[i]) (by simp [hi]) fun h' hit' hs' => ?_
    exact hQ _ h' s.toks (by simp [hi]) ⟨hit', st.2.1.extBut hs'.extBut hne, let ⟨o, vs, a, b, c⟩ := st.2.2; ⟨o, vs, hs'.extBut x1 o hx a, b, c⟩⟩ fun b o hb e => hs'.extBut b o (fun h => hb (by simp [h])) e
  done := fun s Q E st hQ => pyNext_list_end_hot ⟨hh, st.2.2⟩ hx st.1 st.2.1 (by simp) fun h' he' => hQ h' s.toks fun b o hb e => he' b o (fun h => hb (by simp [h])) e
  self := fun _ _ _ _ st hQ => wpAny_pyIter_listiter st.1 hQ
end
theorem cr_anyH {X : Cx} (hc : L2H.HotC X) : CallR X (.builtin "any") (rAny X.K) := by
  intro pins s σ H vs us Q I r h
  obtain ⟨a, bs, rfl, hs, q⟩ := h
  obtain ⟨its, rv, hl, _⟩ := I.list hs
  rw [Vals.ref1 r]
  have hb := rv.bls
  obtain ⟨x1, hh, hx⟩ := hc.at I
  refine call_any_walk (iter_any hl.isList fun s₂ e2 st hne => ?_)
  subst e2
  obtain ⟨o1, vs1, h1, d1, c1⟩ := hx
  have lx : x1 < s.heap.objs.size := Heap.lt_size h1
  refine ⟨_, _, _, _, _, _, _, rfl, walks_listH (A := X.A.in1) (x1 := x1) hh _ a hne (Nat.ne_of_lt lx) its.toArray, ⟨st.1, st.2, o1, vs1, Heap.get?_push_of_some _ h1, d1, c1⟩, truth_bools hb, fun h' tk hk => ?_⟩
  refine ⟨.bl _, H, I.kept fun b o eo => hk b o (fun hmem => ?_) (Heap.get?_push_of_some _ eo), ?_, q⟩
  · rcases List.mem_cons.mp hmem with e1 | hmem
    · exact absurd (e1 ▸ Heap.lt_size eo) (Nat.lt_irrefl _)
    · cases hmem
  · show Value.bool _ = Value.bool _
    rw [← L2.any_range, hb, List.size_toArray, List.length_map]
theorem cr_anyHK {X : Cx} {K : PySem.W.Frag} (hc : L2H.HotC X) (h : X.K = K) : CallR X (.builtin "any") (rAny K) := h ▸ cr_anyH hc
/-- a suite's context bears the exception, its context None -/
theorem hot_suite {X : Cx} {a : Addr} {oe : Obj} {cls : Value} {d : Option Addr} {pn : List (Addr × Obj)} (hz : L2N.Zn cls d oe) (hf : ∃ vs, oe.data = .fields vs) : L2H.HotC (X.suite a ((a, oe) :: pn)) := by
  obtain ⟨vs, e⟩ := hf
  exact ⟨(a, oe), ⟨rfl, vs, e, hz.2.2 vs e⟩, List.mem_cons_self⟩
end My
namespace L2
open PySem PySem.Spec PyProof.Rows
section
variable {P : Program} {w : World} {K : PySem.W.Frag} {mg : Str → Option Value} {base : Heap}
/-- as Fun.okX, what is raised has no context -/
theorem Fun.okN {x qual : Str} {st : Stmt} {f : Addr} {fd : FuncData} {N ps : List Str} {k : Nat} {sp : Sp} (F : Fun K x qual st f fd) (S : FnScope N ps (defScope st)) (len : ∀ vs H Q E, sp vs H Q E → vs.length = ps.length)
    (hbody : ∀ (cdv : Value) (A : Around) (outer : List Env) (s : Shared) (H : Hp) (vs : List V) (Q : VK) (E : XK), Room k (A.deeper (envOfC qual (defScope st) s.heap.objs.size f cdv)) → sp vs H Q E →
      ∃ t, PSs (cxOf (L2N.CX P w) P w K mg base N qual (defScope st) f cdv A outer s H E) (defBody st) t ∧ t { nx := fun _ H' => Q .non H', rt := Q } (start N vs) H) : FnOk P w K mg base (L2N.CX P w) (k + 1) f fd ps sp := by
  obtain ⟨oc, od, kV, doc, pm, an, cdv, ct, osl, rfl, lk, hcd⟩ := F.ex
  exact fn_of lk hcd S len fun A outer s H vs Q E hr hsp => hbody cdv A outer s H vs Q E hr hsp
end
end L2
namespace My
open PySem PySem.Spec PyProof.Rows L2
theorem takes0N {X : Cx} : L2N.Takes X (fun _ _ _ _ => False) := fun _ _ x => by
  obtain ⟨_, _, _, _, _, _, _, _, _, _, _, _, _, _, _, _, z⟩ := x
  exact z.elim
theorem passLN {X : Cx} : Passes (L2N.CX X.prog X.w) X E0 := fun _ _ _ _ _ _ _ h => by
  obtain ⟨_, _, _, _, _, _, _, _, _, _, _, _, z⟩ := h
  exact z.elim
end My

/-! ### == and != of two instances of one class with a text's own __eq__ -/
namespace My
open PySem PySem.Spec PyProof.Rows L2
/-- the reading: what the own == promises -/
def rNeI (C : Addr) (sp : Sp) (E : XK) : R2 := fun x y H Q => ∃ (a b dx dy : Addr) (fs gs : List (Str × V)), x = .ref a ∧ y = .ref b ∧ H a = some (.ins C dx fs) ∧ H b = some (.ins C dy gs) ∧
  sp [.ref a, .ref b] H (fun v H' => ∃ r, v = .bl r ∧ Q (.bl (!r)) H') E
def rEqI (C : Addr) (sp : Sp) (E : XK) : R2 := fun x y H Q => ∃ (a b dx dy : Addr) (fs gs : List (Str × V)), x = .ref a ∧ y = .ref b ∧ H a = some (.ins C dx fs) ∧ H b = some (.ins C dy gs) ∧
  sp [.ref a, .ref b] H (fun v H' => ∃ r, v = .bl r ∧ Q (.bl r) H') E
section
variable {prog : Program} {w : World} {A : Around} {E : Value → Shared → Prop} {s : Shared} {K : PySem.W.Frag} {x C f : Addr} {ox : Obj} {od : Option Obj} {b : Value}
theorem call_objNe {Q : Value → Shared → Prop} (hu : A.units + 1 < cLine) (X : K.In s.heap) (I : PySem.W.InstAt s.heap x ox C od) (hm : PySem.W.mroIn K C (.type "object") = some true) (hs : PySem.W.findIn K (.ref C) "__eq__" = some (some (.ref f))) (hf : PySem.W.isFn K (.ref f) = true)
    (h : wpAny (model prog w) A.in1 (call (.ref f) [.ref x, b]) (fun v s' => ∃ r, v = .bool r ∧ Q (.bool (!r)) s') E s) :
    wpAny (model prog w) A (call (.builtin "object.__ne__") [.ref x, b]) Q E s := by
  refine wpAny_call (codeAny_call_builtin F.cmp_object.ne.plain F.cmpEntry_ne (PySem.W.check_slot F.cmpKind_ne F.cmpSplit_ne (I.type.andThen (PySem.W.looks_mroIn X hm)) (F.cmpArgs_ne _ _) ?_))
  unfold Builtin.«object.__ne__»
  repeat (first
    | with_reducible refine wpAny_cRoomFor (show A.in1.units < cLine from hu) ?_
    | (refine wpAny_bind (m := callSpecialIfBound? (.ref x) (Str.ofString "__eq__") [b])
        (PySem.W.ifBound_K X I hs hf (wpAny_mono h (fun r s' hr => by
          obtain ⟨b, rfl, hq⟩ := hr
          repeat (first | exact ⟨_, rfl, hq⟩ | exact hq | exact wpAny_pure hq | exact wpAny_truthy_bool hq | (refine wpAny_bind (m := truthy (.bool _)) (wpAny_truthy_bool ?_)) | wp_step)) fun _ _ e => e)))
    | wp_step)
theorem ifBound_objNe {args : List Value} {Q : Option Value → Shared → Prop} (X : K.In s.heap) (I : PySem.W.InstAt s.heap x ox C od) (hs : PySem.W.findIn K (.ref C) "__ne__" = some (some (.builtin "object.__ne__")))
    (h : wpAny (model prog w) A (call (.builtin "object.__ne__") (.ref x :: args)) (fun v => Q (some v)) E s) : wpAny (model prog w) A (callSpecialIfBound? (.ref x) "__ne__" args) Q E s := by
  simp only [callSpecialIfBound?, bindSpecialIfBound?]
  refine wpAny_holding (wpAny_bind (wpAny_bind (wpAny_bind (I.type.here ((PySem.W.looks_findIn X hs).here ?_)))))
  refine wpAny_bind (wpAny_askSetting (wpAny_ite ?_))
  have fin : wpAny (model prog w) A (call (.builtin "object.__ne__") ([.ref x] ++ args) >>= fun v => pure (some v)) Q E s := wpAny_bind (wpAny_mono h (fun v s' h' => wpAny_pure h') fun _ _ h' => h')
  split
  · exact wpAny_bind (wpAny_of_eq (F.cmp_object.ne.bind _) (wpAny_pure (by exact fin)))
  · exact wpAny_tryCatch (wpAny_bind (wpAny_of_eq (F.cmp_object.ne.bind _) (wpAny_pure (by exact fin))))
/-- != of two instances of one class, by the own __eq__ -/
theorem rc_neI {y : Addr} {oy : Obj} {od' : Option Obj} {Q : Value → Shared → Prop} (hu : A.units + 1 < cLine) (X : K.In s.heap) (I : PySem.W.InstAt s.heap x ox C od) (J : PySem.W.InstAt s.heap y oy C od') (hm : PySem.W.mroIn K C (.type "object") = some true)
    (hs : PySem.W.findIn K (.ref C) "__eq__" = some (some (.ref f))) (hn : PySem.W.findIn K (.ref C) "__ne__" = some (some (.builtin "object.__ne__"))) (hf : PySem.W.isFn K (.ref f) = true)
    (h : wpAny (model prog w) A.in1 (call (.ref f) [.ref x, .ref y]) (fun v s' => ∃ r, v = .bool r ∧ Q (.bool (!r)) s') E s) : wpAny (model prog w) A (richCompare .NotEq (.ref x) (.ref y)) Q E s := by
  have one : wpAny (model prog w) A (tryCompare (.ref x) "__ne__" (.ref y)) (fun r s' => ∃ v, r = some v ∧ Q v s') E s := by
    unfold tryCompare
    refine wpAny_bind (ifBound_objNe X I hn (call_objNe hu X I hm hs hf (wpAny_mono h (fun v s' hv => ?_) fun _ _ e => e)))
    obtain ⟨r, rfl, hq⟩ := hv
    exact ⟨r, rfl, wpAny_pure ⟨_, rfl, hq⟩⟩
  unfold richCompare
  simp only [oneThing_ref]
  refine wpAny_holding (wpAny_bind (wpAny_cRoomFor (by omega) ?_))
  rw [cmpInfo_NotEq]
  refine wpAny_bind (I.type.here (wpAny_bind (J.type.here ?_)))
  rw [show (Value.ref C != Value.ref C) = false from by simp]
  simp only [Bool.false_eq_true, if_false]
  refine wpAny_bind (wpAny_pure ?_)
  simp only [Bool.false_eq_true, if_false]
  refine wpAny_bind (wpAny_mono one (fun r s' z => ?_) fun _ _ e => e)
  obtain ⟨v, rfl, hq⟩ := z
  exact wpAny_pure hq
end
section
variable {X : Cx} {CX : CXT} {n : Nat} {C f : Addr} {fd : FuncData} {ps : List Str} {sp : Sp} {E : XK}
theorem op_neI (F : FnOk X.prog X.w X.K X.mg X.base CX n f fd ps sp) (hr : Room (n + 1) X.A) (hm : PySem.W.mroIn X.K C (.type "object") = some true) (hs : PySem.W.findIn X.K (.ref C) "__eq__" = some (some (.ref f))) (hn : PySem.W.findIn X.K (.ref C) "__ne__" = some (some (.builtin "object.__ne__")))
    (hf : PySem.W.isFn X.K (.ref f) = true) (hb : Binds X.K fd ps []) (hx : Passes CX X E) : OpR X (compareOp .NotEq) (rNeI C sp E) := by
  intro pins s σ H x y u v Q I rx ry h
  obtain ⟨a, b, dx, dy, fs, gs, rfl, rfl, ha, hb', hsp⟩ := h
  cases rx
  cases ry
  obtain ⟨mA, J, _⟩ := ins_get I.hok ha
  obtain ⟨mB, J', _⟩ := ins_get I.hok hb'
  obtain ⟨od, J, _⟩ := J.look
  obtain ⟨od', J', _⟩ := J'.look
  show wpAny (model X.prog X.w) X.A (richCompare .NotEq (.ref a) (.ref b)) (EP X pins σ Q) X.xe s
  refine rc_neI (show X.A.in1.units < cLine from hr.in1.units0) I.kIn J J' hm hs hn hf ?_
  have hl := F.len _ _ _ _ hsp
  have r2 : Vals [V.ref a, V.ref b] [Value.ref a, Value.ref b] := .cons rfl (.cons rfl .nil)
  have e0 : Env0 X.prog X.w X.K X.mg X.base X.A.in1 X.stack s H := have e := I.env0; ⟨e.frames, e.mod, e.bs, e.bsz, e.funs, e.frf, e.hok, e.bare⟩
  refine wpAny_call (codeAny_mono (F.run X.A.in1 X.stack s H ⟨[.ref a, .ref b], []⟩ [.ref a, .ref b] [.ref a, .ref b] _ E hr.in1 e0 (by
    have := hb s [.ref a, .ref b] I.kIn (by simpa using hl)
    simpa using this) r2 hsp) fun r s' hq => ?_)
  cases r with
  | error e => exact hx pins σ H s e s' I hq
  | ok fl =>
    cases fl with
    | ret w =>
      obtain ⟨z, H', I', rz, r, ez, q⟩ := I.after hq
      subst ez
      cases (show w = Value.bool r from rz)
      exact ⟨r, rfl, .bl (!r), H', I', rfl, q⟩
    | next => exact False.elim hq
    | brk => exact False.elim hq
    | cont => exact False.elim hq
theorem op_neIK {K : PySem.W.Frag} (hK : X.K = K) (F : FnOk X.prog X.w K X.mg X.base CX n f fd ps sp) (hr : Room (n + 1) X.A) (hm : PySem.W.mroIn K C (.type "object") = some true) (hs : PySem.W.findIn K (.ref C) "__eq__" = some (some (.ref f))) (hn : PySem.W.findIn K (.ref C) "__ne__" = some (some (.builtin "object.__ne__")))
    (hf : PySem.W.isFn K (.ref f) = true) (hb : Binds K fd ps []) (hx : Passes CX X E) : OpR X (compareOp .NotEq) (rNeI C sp E) := by
  subst hK
  exact op_neI F hr hm hs hn hf hb hx
end
/-- a method of an own class, with its facts -/
structure Mt (K : PySem.W.Frag) (x qual : Str) (st : Stmt) (C : Addr) (ps : List Str) where
  f : Addr
  fd : FuncData
  F : Fun K x qual st f fd
  b : Binds K fd ps []
  s : PySem.W.findIn K (.ref C) x = some (some (.ref f))
  n : PySem.W.isFn K (.ref f) = true
theorem Mt.meth {K : PySem.W.Frag} {x qual : Str} {st : Stmt} {C : Addr} {ps : List Str} (d : Mt K x qual st C ps) : Meth K C x d.f := ⟨d.s, d.n, d.F.kp⟩
def mt_mk {K : PySem.W.Frag} {x qual : Str} {st : Stmt} {C : Addr} {ps : List Str} {f : Addr} {oc : Value} {od an : Option Addr} {osl : Array (Option Value)} {kV doc pm cdv ct : Value}
    (a : PySem.W.findIn K (.ref C) x = some (some (.ref f))) (l : K.lookup f = some ⟨oc, od, .func (PySem.W.fnOf x qual (defArgs st) (defBody st) (defScope st) .none kV doc pm an cdv ct), osl⟩)
    (c : PySem.W.codeIn K cdv qual = true) (k : PySem.W.keepIn K (.ref f) = true) (n : PySem.W.isFn K (.ref f) = true)
    (hb : ∀ (kV doc pm : Value) (an : Option Addr) (cdv ct : Value) (us : List Value), us.length = ps.length → bindArgs (PySem.W.fnOf x qual (defArgs st) (defBody st) (defScope st) .none kV doc pm an cdv ct) ⟨us, []⟩ = pure (ps.zip us)) : Mt K x qual st C ps :=
  ⟨f, _, fun_mk l c k, (fun_mk l c k).binds hb, a, n⟩
end My

namespace My
open PySem PySem.Spec PyProof.Rows L2
def top (i : Nat) : Stmt := PySem.Challenge.pw_nestlaid_k16_styles_refused.main.body.getD i (.Pass ⟨0, 0, 0, 0⟩)
abbrev s_NoText_init : Stmt := inClass (top 3) 0
abbrev N_NoText_init : List Str := ["self", "why", "line"]
theorem sc_NoText_init : FnScope N_NoText_init ["self", "why", "line"] (defScope s_NoText_init) := ⟨rfl, rfl, rfl, by decide +kernel, rfl, by decide +kernel, by decide +kernel⟩
abbrev s_is_whole : Stmt := top 12
abbrev N_is_whole : List Str := ["thing"]
theorem sc_is_whole : FnScope N_is_whole ["thing"] (defScope s_is_whole) := ⟨rfl, rfl, rfl, by decide +kernel, rfl, by decide +kernel, by decide +kernel⟩
abbrev s_is_count : Stmt := top 16
abbrev N_is_count : List Str := ["thing"]
theorem sc_is_count : FnScope N_is_count ["thing"] (defScope s_is_count) := ⟨rfl, rfl, rfl, by decide +kernel, rfl, by decide +kernel, by decide +kernel⟩
abbrev s_is_name : Stmt := top 17
abbrev N_is_name : List Str := ["thing", "sign"]
theorem sc_is_name : FnScope N_is_name ["thing"] (defScope s_is_name) := ⟨rfl, rfl, rfl, by decide +kernel, rfl, by decide +kernel, by decide +kernel⟩
abbrev s_is_part : Stmt := top 22
abbrev N_is_part : List Str := ["size"]
theorem sc_is_part : FnScope N_is_part ["size"] (defScope s_is_part) := ⟨rfl, rfl, rfl, by decide +kernel, rfl, by decide +kernel, by decide +kernel⟩
abbrev s_is_tie : Stmt := top 23
abbrev N_is_tie : List Str := ["size"]
theorem sc_is_tie : FnScope N_is_tie ["size"] (defScope s_is_tie) := ⟨rfl, rfl, rfl, by decide +kernel, rfl, by decide +kernel, by decide +kernel⟩
abbrev s_is_size : Stmt := top 24
abbrev N_is_size : List Str := ["thing"]
theorem sc_is_size : FnScope N_is_size ["thing"] (defScope s_is_size) := ⟨rfl, rfl, rfl, by decide +kernel, rfl, by decide +kernel, by decide +kernel⟩
abbrev s_is_bound : Stmt := top 25
abbrev N_is_bound : List Str := ["thing"]
theorem sc_is_bound : FnScope N_is_bound ["thing"] (defScope s_is_bound) := ⟨rfl, rfl, rfl, by decide +kernel, rfl, by decide +kernel, by decide +kernel⟩
abbrev s_is_rims : Stmt := top 26
abbrev N_is_rims : List Str := ["thing", "rim"]
theorem sc_is_rims : FnScope N_is_rims ["thing"] (defScope s_is_rims) := ⟨rfl, rfl, rfl, by decide +kernel, rfl, by decide +kernel, by decide +kernel⟩
abbrev s_Style_init : Stmt := inClass (top 27) 0
abbrev N_Style_init : List Str := ["self", "wide", "high", "least_wide", "least_high", "most_wide", "most_high", "grow", "shrink", "rims", "stand", "sizes", "bounds", "one"]
theorem sc_Style_init : FnScope N_Style_init ["self", "wide", "high", "least_wide", "least_high", "most_wide", "most_high", "grow", "shrink", "rims", "stand"] (defScope s_Style_init) := ⟨rfl, rfl, rfl, by decide +kernel, rfl, by decide +kernel, by decide +kernel⟩
abbrev s_Style_eq : Stmt := inClass (top 27) 1
abbrev N_Style_eq : List Str := ["self", "other"]
theorem sc_Style_eq : FnScope N_Style_eq ["self", "other"] (defScope s_Style_eq) := ⟨rfl, rfl, rfl, by decide +kernel, rfl, by decide +kernel, by decide +kernel⟩
abbrev s_Style_repr : Stmt := inClass (top 27) 2
abbrev N_Style_repr : List Str := ["self"]
theorem sc_Style_repr : FnScope N_Style_repr ["self"] (defScope s_Style_repr) := ⟨rfl, rfl, rfl, by decide +kernel, rfl, by decide +kernel, by decide +kernel⟩
abbrev s_told_fields : Stmt := top 28
abbrev N_told_fields : List Str := ["style"]
theorem sc_told_fields : FnScope N_told_fields ["style"] (defScope s_told_fields) := ⟨rfl, rfl, rfl, by decide +kernel, rfl, by decide +kernel, by decide +kernel⟩
abbrev s_shown_fields : Stmt := top 29
abbrev N_shown_fields : List Str := ["style", "name", "value", "usual"]
theorem sc_shown_fields : FnScope N_shown_fields ["style"] (defScope s_shown_fields) := ⟨rfl, rfl, rfl, by decide +kernel, rfl, by decide +kernel, by decide +kernel⟩
abbrev s_w_cell_at : Stmt := top 31
abbrev N_w_cell_at : List Str := ["_law_script", "_law_k"]
theorem sc_w_cell_at : FnScope N_w_cell_at ["_law_script", "_law_k"] (defScope s_w_cell_at) := ⟨rfl, rfl, rfl, by decide +kernel, rfl, by decide +kernel, by decide +kernel⟩
abbrev s_w_mixed : Stmt := top 32
abbrev N_w_mixed : List Str := ["_law_cell", "_law_k", "_law_number_here"]
theorem sc_w_mixed : FnScope N_w_mixed ["_law_cell", "_law_k"] (defScope s_w_mixed) := ⟨rfl, rfl, rfl, by decide +kernel, rfl, by decide +kernel, by decide +kernel⟩
abbrev s_w_source : Stmt := top 33
abbrev N_w_source : List Str := ["_law_cell"]
theorem sc_w_source : FnScope N_w_source ["_law_cell"] (defScope s_w_source) := ⟨rfl, rfl, rfl, by decide +kernel, rfl, by decide +kernel, by decide +kernel⟩
abbrev s_w_next : Stmt := top 34
abbrev N_w_next : List Str := ["_law_source_here", "_law_many", "_law_found"]
theorem sc_w_next : FnScope N_w_next ["_law_source_here", "_law_many"] (defScope s_w_next) := ⟨rfl, rfl, rfl, by decide +kernel, rfl, by decide +kernel, by decide +kernel⟩
abbrev s_w_name : Stmt := top 35
abbrev N_w_name : List Str := ["_law_source_here", "_law_many", "_law_text", "_law_k"]
theorem sc_w_name : FnScope N_w_name ["_law_source_here", "_law_many"] (defScope s_w_name) := ⟨rfl, rfl, rfl, by decide +kernel, rfl, by decide +kernel, by decide +kernel⟩
abbrev s_w_number : Stmt := top 36
abbrev N_w_number : List Str := ["_law_source_here"]
theorem sc_w_number : FnScope N_w_number ["_law_source_here"] (defScope s_w_number) := ⟨rfl, rfl, rfl, by decide +kernel, rfl, by decide +kernel, by decide +kernel⟩
abbrev s_w_size : Stmt := top 37
abbrev N_w_size : List Str := ["_law_source_here", "_law_way", "_law_name_here"]
theorem sc_w_size : FnScope N_w_size ["_law_source_here"] (defScope s_w_size) := ⟨rfl, rfl, rfl, by decide +kernel, rfl, by decide +kernel, by decide +kernel⟩
abbrev s_w_values : Stmt := top 38
abbrev N_w_values : List Str := ["_law_source_here", "_law_values_here", "_law_k"]
theorem sc_w_values : FnScope N_w_values ["_law_source_here"] (defScope s_w_values) := ⟨rfl, rfl, rfl, by decide +kernel, rfl, by decide +kernel, by decide +kernel⟩
abbrev s_w_no_count : Stmt := top 39
abbrev N_w_no_count : List Str := ["_law_source_here", "_law_some"]
theorem sc_w_no_count : FnScope N_w_no_count ["_law_source_here"] (defScope s_w_no_count) := ⟨rfl, rfl, rfl, by decide +kernel, rfl, by decide +kernel, by decide +kernel⟩
abbrev s_w_no_name : Stmt := top 40
abbrev N_w_no_name : List Str := ["_law_source_here", "_law_some", "_law_many", "_law_at", "_law_name_here", "_law_spoilt_here", "_law_ways"]
theorem sc_w_no_name : FnScope N_w_no_name ["_law_source_here"] (defScope s_w_no_name) := ⟨rfl, rfl, rfl, by decide +kernel, rfl, by decide +kernel, by decide +kernel⟩
abbrev s_w_no_size : Stmt := top 41
abbrev N_w_no_size : List Str := ["_law_source_here", "_law_way", "_law_number_here", "_law_name_here", "_law_side", "_law_some"]
theorem sc_w_no_size : FnScope N_w_no_size ["_law_source_here"] (defScope s_w_no_size) := ⟨rfl, rfl, rfl, by decide +kernel, rfl, by decide +kernel, by decide +kernel⟩
abbrev s_w_no_rims : Stmt := top 42
abbrev N_w_no_rims : List Str := ["_law_source_here", "_law_edges", "_law_way", "_law_bad", "_law_shift", "_law_k"]
theorem sc_w_no_rims : FnScope N_w_no_rims ["_law_source_here"] (defScope s_w_no_rims) := ⟨rfl, rfl, rfl, by decide +kernel, rfl, by decide +kernel, by decide +kernel⟩
abbrev s_w_no_stand : Stmt := top 43
abbrev N_w_no_stand : List Str := ["_law_source_here", "_law_word", "_law_some"]
theorem sc_w_no_stand : FnScope N_w_no_stand ["_law_source_here"] (defScope s_w_no_stand) := ⟨rfl, rfl, rfl, by decide +kernel, rfl, by decide +kernel, by decide +kernel⟩
abbrev s_w_spoilt : Stmt := top 44
abbrev N_w_spoilt : List Str := ["_law_source_here", "_law_at"]
theorem sc_w_spoilt : FnScope N_w_spoilt ["_law_source_here", "_law_at"] (defScope s_w_spoilt) := ⟨rfl, rfl, rfl, by decide +kernel, rfl, by decide +kernel, by decide +kernel⟩
abbrev s_w_all : Stmt := top 45
abbrev N_w_all : List Str := ["_law_values_here", "_law_one", "_law_two", "_law_three", "_law_four", "_law_five", "_law_six", "_law_seven", "_law_eight", "_law_nine", "_law_ten"]
theorem sc_w_all : FnScope N_w_all ["_law_values_here"] (defScope s_w_all) := ⟨rfl, rfl, rfl, by decide +kernel, rfl, by decide +kernel, by decide +kernel⟩
abbrev s_w_alone : Stmt := top 46
abbrev N_w_alone : List Str := ["_law_at", "_law_value"]
theorem sc_w_alone : FnScope N_w_alone ["_law_at", "_law_value"] (defScope s_w_alone) := ⟨rfl, rfl, rfl, by decide +kernel, rfl, by decide +kernel, by decide +kernel⟩
abbrev s_w_only : Stmt := top 47
abbrev N_w_only : List Str := ["_law_e", "_law_marks"]
theorem sc_w_only : FnScope N_w_only ["_law_e"] (defScope s_w_only) := ⟨rfl, rfl, rfl, by decide +kernel, rfl, by decide +kernel, by decide +kernel⟩
abbrev s_w_refused : Stmt := top 48
abbrev N_w_refused : List Str := ["_law_values_here", "_law_at", "_law_e"]
theorem sc_w_refused : FnScope N_w_refused ["_law_values_here", "_law_at"] (defScope s_w_refused) := ⟨rfl, rfl, rfl, by decide +kernel, rfl, by decide +kernel, by decide +kernel⟩
abbrev s_law : Stmt := top 49
abbrev N_law : List Str := ["_law_script", "_law_k", "_law_source_here", "_law_chosen", "_law_at", "_law_bad", "_law_good", "_law_values_here", "_law_thing", "_law_j"]
theorem sc_law : FnScope N_law ["_law_script"] (defScope s_law) := ⟨rfl, rfl, rfl, by decide +kernel, rfl, by decide +kernel, by decide +kernel⟩
structure Tx (K : PySem.W.Frag) (mg : Str → Option Value) where
  U_NO_RIMS : Addr
  U_SIDES : Addr
  U_STANDS : Addr
  U_LETTERS : Value
  U_LONGEST : Value
  c_Style : Cl K mg "Style"
  n_Style_wide : PySem.W.findIn K (.ref c_Style.C) "wide" = some none
  n_Style_high : PySem.W.findIn K (.ref c_Style.C) "high" = some none
  n_Style_least_wide : PySem.W.findIn K (.ref c_Style.C) "least_wide" = some none
  n_Style_least_high : PySem.W.findIn K (.ref c_Style.C) "least_high" = some none
  n_Style_most_wide : PySem.W.findIn K (.ref c_Style.C) "most_wide" = some none
  n_Style_most_high : PySem.W.findIn K (.ref c_Style.C) "most_high" = some none
  n_Style_grow : PySem.W.findIn K (.ref c_Style.C) "grow" = some none
  n_Style_shrink : PySem.W.findIn K (.ref c_Style.C) "shrink" = some none
  n_Style_rims : PySem.W.findIn K (.ref c_Style.C) "rims" = some none
  n_Style_stand : PySem.W.findIn K (.ref c_Style.C) "stand" = some none
  d_is_whole : Df K mg "is_whole" s_is_whole ["thing"]
  d_is_count : Df K mg "is_count" s_is_count ["thing"]
  d_is_name : Df K mg "is_name" s_is_name ["thing"]
  d_is_part : Df K mg "is_part" s_is_part ["size"]
  d_is_tie : Df K mg "is_tie" s_is_tie ["size"]
  d_is_size : Df K mg "is_size" s_is_size ["thing"]
  d_is_bound : Df K mg "is_bound" s_is_bound ["thing"]
  d_is_rims : Df K mg "is_rims" s_is_rims ["thing"]
  d_Style_init : Ini K "Style.__init__" s_Style_init c_Style.C [("wide", .non), ("high", .non), ("least_wide", .non), ("least_high", .non), ("most_wide", .non), ("most_high", .non), ("grow", .int 0), ("shrink", .int 1), ("rims", .ref U_NO_RIMS), ("stand", .non)]
  d_Style_eq : Mt K "__eq__" "Style.__eq__" s_Style_eq c_Style.C ["self", "other"]
  d_told_fields : Df K mg "told_fields" s_told_fields ["style"]
  d_shown_fields : Df K mg "shown_fields" s_shown_fields ["style"]
  d_w_cell_at : Df K mg "_law_cell_at" s_w_cell_at ["_law_script", "_law_k"]
  d_w_mixed : Df K mg "_law_mixed" s_w_mixed ["_law_cell", "_law_k"]
  d_w_source : Df K mg "_law_source" s_w_source ["_law_cell"]
  d_w_next : Df K mg "_law_next" s_w_next ["_law_source_here", "_law_many"]
  d_w_name : Df K mg "_law_name" s_w_name ["_law_source_here", "_law_many"]
  d_w_number : Df K mg "_law_number" s_w_number ["_law_source_here"]
  d_w_size : Df K mg "_law_size" s_w_size ["_law_source_here"]
  d_w_values : Df K mg "_law_values" s_w_values ["_law_source_here"]
  d_w_no_count : Df K mg "_law_no_count" s_w_no_count ["_law_source_here"]
  d_w_no_name : Df K mg "_law_no_name" s_w_no_name ["_law_source_here"]
  d_w_no_size : Df K mg "_law_no_size" s_w_no_size ["_law_source_here"]
  d_w_no_rims : Df K mg "_law_no_rims" s_w_no_rims ["_law_source_here"]
  d_w_no_stand : Df K mg "_law_no_stand" s_w_no_stand ["_law_source_here"]
  d_w_spoilt : Df K mg "_law_spoilt" s_w_spoilt ["_law_source_here", "_law_at"]
  d_w_all : Df K mg "_law_all" s_w_all ["_law_values_here"]
  d_w_alone : Df K mg "_law_alone" s_w_alone ["_law_at", "_law_value"]
  d_w_only : Df K mg "_law_only" s_w_only ["_law_e"]
  d_w_refused : Df K mg "_law_refused" s_w_refused ["_law_values_here", "_law_at"]
  d_law : Df K mg "law" s_law ["_law_script"]
  b_ValueError : mg "ValueError" = none
  b_all : mg "all" = none
  b_any : mg "any" = none
  b_bool : mg "bool" = none
  b_int : mg "int" = none
  b_isinstance : mg "isinstance" = none
  b_len : mg "len" = none
  b_list : mg "list" = none
  b_max : mg "max" = none
  b_min : mg "min" = none
  b_range : mg "range" = none
  b_str : mg "str" = none
  b_tuple : mg "tuple" = none
  b_zip : mg "zip" = none
  v_NO_RIMS : mg "NO_RIMS" = some (.ref U_NO_RIMS)
  v_SIDES : mg "SIDES" = some (.ref U_SIDES)
  v_STANDS : mg "STANDS" = some (.ref U_STANDS)
  v_LETTERS : mg "LETTERS" = some (U_LETTERS)
  v_LONGEST : mg "LONGEST" = some (U_LONGEST)
  t_NO_RIMS : ∀ H, SqT K H U_NO_RIMS [.int 0, .int 0, .int 0, .int 0]
  t_SIDES : ∀ H, SqT K H U_SIDES [.str (Str.ofString "wide"), .str (Str.ofString "tall")]
  t_STANDS : ∀ H, SqT K H U_STANDS [.str (Str.ofString "start"), .str (Str.ofString "end"), .str (Str.ofString "middle"), .str (Str.ofString "stretch"), .str (Str.ofString "base")]
  r_LETTERS : RelV (.str (Str.ofString "abcdefghijklmnopqrstuvwxyz")) U_LETTERS
  r_LONGEST : RelV (.int 8) U_LONGEST
  e_NestError : Ex K mg "NestError"
  e_NoStyle : Ex K mg "NoStyle"
  r_NoStyle : PySem.W.subIn K (.ref e_NoStyle.C) (.ref e_NestError.C) = some true
  s_NoStyle : PySem.W.subIn K (.ref e_NoStyle.C) (.ref e_NoStyle.C) = some true
  v_NoStyle : PySem.W.subIn K (.ref e_NoStyle.C) (.type "ValueError") = some true
  e_NoName : Ec K mg "NoName"
  i_NoName : PySem.W.subIn K (.ref e_NoStyle.C) (.ref e_NoName.C) = some false
  e_NoNumber : Ec K mg "NoNumber"
  i_NoNumber : PySem.W.subIn K (.ref e_NoStyle.C) (.ref e_NoNumber.C) = some false
  e_NoText : Ec K mg "NoText"
  i_NoText : PySem.W.subIn K (.ref e_NoStyle.C) (.ref e_NoText.C) = some false
  e_NoBox : Ec K mg "NoBox"
  i_NoBox : PySem.W.subIn K (.ref e_NoStyle.C) (.ref e_NoBox.C) = some false
  e_NoStand : Ec K mg "NoStand"
  i_NoStand : PySem.W.subIn K (.ref e_NoStyle.C) (.ref e_NoStand.C) = some false
  e_NoTree : Ec K mg "NoTree"
  i_NoTree : PySem.W.subIn K (.ref e_NoStyle.C) (.ref e_NoTree.C) = some false
  e_NoTruth : Ec K mg "NoTruth"
  i_NoTruth : PySem.W.subIn K (.ref e_NoStyle.C) (.ref e_NoTruth.C) = some false
  e_NoRow : Ec K mg "NoRow"
  i_NoRow : PySem.W.subIn K (.ref e_NoStyle.C) (.ref e_NoRow.C) = some false
  wc : PySem.W.findIn K (.ref c_Style.C) "__class__" = some (some (.builtin "object.__class__"))
  wg : PySem.W.specialIn K (.builtin "object.__class__") "__get__" = some (some (.builtin "getset_descriptor.__get__"))
  wt : PySem.W.takesIn K (.builtin "object.__class__") = some true
  wm : PySem.W.mroIn K c_Style.C (.type "object") = some true
  k_int : PySem.W.kitOne K (.ref c_Style.C) (.type "int") = some false
  k_bool : PySem.W.kitOne K (.ref c_Style.C) (.type "bool") = some false
  k_str : PySem.W.kitOne K (.ref c_Style.C) (.type "str") = some false
  k_tuple : PySem.W.kitOne K (.ref c_Style.C) (.type "tuple") = some false
  k_list : PySem.W.kitOne K (.ref c_Style.C) (.type "list") = some false
  k_dict : PySem.W.hasDictIn K c_Style.C = true
  k_own : PySem.W.subIn K (.ref c_Style.C) (.ref c_Style.C) = some true
  k_type : PySem.W.typeIn K (.ref c_Style.C) = some (.type "type")
  k_ne : PySem.W.findIn K (.ref c_Style.C) "__ne__" = some (some (.builtin "object.__ne__"))
end My
/-! ### styles: told values, fields, alike -/
namespace My
open PySem L2
abbrev sX (s : String) : V := .str (Str.ofString s)
def lettersL : List Nat := (Str.ofString "abcdefghijklmnopqrstuvwxyz").cps.toList
def NameOk (l : List Nat) : Prop := 1 ≤ l.length ∧ l.length ≤ 8 ∧ ∀ c ∈ l, c ∈ lettersL
inductive SzAt (H : Hp) : V → Prop
  | non : SzAt H .non
  | cells (n : Nat) : SzAt H (.int (n : Int))
  | part (a : Addr) (n : Nat) (h : H a = some (.tup [sX "part", .int (n : Int)])) : SzAt H (.ref a)
  | tie (a : Addr) (l : List Nat) (sd : String) (m : Int) (hl : NameOk l) (hs : sd = "wide" ∨ sd = "tall") (h : H a = some (.tup [sX "as", .str (sO l), sX sd, .int m])) : SzAt H (.ref a)
def BdAt (v : V) : Prop := v = .non ∨ ∃ n : Nat, v = .int (n : Int)
def CtAt (v : V) : Prop := ∃ n : Nat, v = .int (n : Int)
def RmAt (K : PySem.W.Frag) (H : Hp) (v : V) : Prop := ∃ (a : Addr) (n0 n1 n2 n3 : Nat), v = .ref a ∧ SqT K H a [.int (n0 : Int), .int (n1 : Int), .int (n2 : Int), .int (n3 : Int)]
def stands5 : List String := ["start", "end", "middle", "stretch", "base"]
def StAt (v : V) : Prop := v = .non ∨ ∃ s ∈ stands5, v = sX s
theorem SzAt.same {H H' : Hp} {v : V} (h : SzAt H v) (s : Same H H') : SzAt H' v := by
  cases h with
  | non => exact .non
  | cells n => exact .cells n
  | part a n h => exact .part a n (s _ _ h)
  | tie a l sd m hl hs h => exact .tie a l sd m hl hs (s _ _ h)
/-- a tuple stays where a list is changed -/
theorem tup_but {H H' : Hp} {p a : Addr} {xs zs : List V} (b : But p H H') (hp : H p = some (.lst zs)) (h : H a = some (.tup xs)) : H' a = some (.tup xs) := b.app (by rintro rfl; rw [hp] at h; cases h) h
theorem SzAt.but {H H' : Hp} {v : V} {p : Addr} {zs : List V} (h : SzAt H v) (b : But p H H') (hp : H p = some (.lst zs)) : SzAt H' v := by
  cases h with
  | non => exact .non
  | cells n => exact .cells n
  | part a n h => exact .part a n (tup_but b hp h)
  | tie a l sd m hl hs h => exact .tie a l sd m hl hs (tup_but b hp h)
theorem RmAt.same {K : PySem.W.Frag} {H H' : Hp} {v : V} (h : RmAt K H v) (s : Same H H') : RmAt K H' v := let ⟨a, n0, n1, n2, n3, e, g⟩ := h; ⟨a, n0, n1, n2, n3, e, Same.seqT s g⟩
theorem seqT_but {K : PySem.W.Frag} {H H' : Hp} {p a : Addr} {xs zs : List V} (b : But p H H') (hp : H p = some (.lst zs)) (h : SqT K H a xs) : SqT K H' a xs := by
  rcases h with (h | ⟨o, h⟩) | h
  · exact .inl (.inl (tup_but b hp h))
  · exact .inl (.inr ⟨o, b.app (by rintro rfl; rw [hp] at h; cases h) h⟩)
  · exact .inr h
theorem RmAt.but {K : PySem.W.Frag} {H H' : Hp} {v : V} {p : Addr} {zs : List V} (h : RmAt K H v) (b : But p H H') (hp : H p = some (.lst zs)) : RmAt K H' v := let ⟨a, n0, n1, n2, n3, e, g⟩ := h; ⟨a, n0, n1, n2, n3, e, seqT_but b hp g⟩
theorem RmAt.of {K : PySem.W.Frag} {H : Hp} {a : Addr} {n0 n1 n2 n3 : Nat} (h : H a = some (.tup [.int (n0 : Int), .int (n1 : Int), .int (n2 : Int), .int (n3 : Int)])) : RmAt K H (.ref a) := ⟨a, n0, n1, n2, n3, rfl, sqT h⟩
/-- the fields of a style as its __init__ lays them -/
def styF (w h lw lh mw mh g s r st : V) : List (Str × V) :=
  [("wide", w), ("high", h), ("least_wide", lw), ("least_high", lh), ("most_wide", mw), ("most_high", mh), ("grow", g), ("shrink", s), ("rims", r), ("stand", st)]
/-- all ten values good -/
structure ValsOk (K : PySem.W.Frag) (H : Hp) (w h lw lh mw mh g s r st : V) : Prop where
  w : SzAt H w
  h : SzAt H h
  lw : BdAt lw
  lh : BdAt lh
  mw : BdAt mw
  mh : BdAt mh
  g : CtAt g
  s : CtAt s
  r : RmAt K H r
  st : StAt st
theorem ValsOk.same {K : PySem.W.Frag} {H H' : Hp} {w h lw lh mw mh g s r st : V} (v : ValsOk K H w h lw lh mw mh g s r st) (m : Same H H') : ValsOk K H' w h lw lh mw mh g s r st := ⟨v.w.same m, v.h.same m, v.lw, v.lh, v.mw, v.mh, v.g, v.s, v.r.same m, v.st⟩
/-! #### alike -/
def FlAt (v : V) : Prop := (∃ i, v = .int i) ∨ ∃ s, v = .str s
def AlkAt (K : PySem.W.Frag) (H : Hp) (u v : V) : Prop := (u = v ∧ (v = .non ∨ FlAt v)) ∨ ∃ (a b : Addr) (xs : List V), u = .ref a ∧ v = .ref b ∧ SqT K H a xs ∧ H b = some (.tup xs) ∧ (∀ x ∈ xs, FlAt x) ∧ xs.length ≤ 10
theorem AlkAt.same {K : PySem.W.Frag} {H H' : Hp} {u v : V} (h : AlkAt K H u v) (s : Same H H') : AlkAt K H' u v := h.imp id fun ⟨a, b, xs, e1, e2, h1, h2, h3, h4⟩ => ⟨a, b, xs, e1, e2, Same.seqT s h1, s _ _ h2, h3, h4⟩
theorem AlkAt.but {K : PySem.W.Frag} {H H' : Hp} {u v : V} {p : Addr} {zs : List V} (h : AlkAt K H u v) (b : But p H H') (hp : H p = some (.lst zs)) : AlkAt K H' u v := h.imp id fun ⟨a, c, xs, e1, e2, h1, h2, h3, h4⟩ => ⟨a, c, xs, e1, e2, seqT_but b hp h1, tup_but b hp h2, h3, h4⟩
theorem SzAt.alk {K : PySem.W.Frag} {H : Hp} {v : V} (h : SzAt H v) : AlkAt K H v v := by
  cases h with
  | non => exact .inl ⟨rfl, .inl rfl⟩
  | cells n => exact .inl ⟨rfl, .inr (.inl ⟨_, rfl⟩)⟩
  | part a n h => exact .inr ⟨a, a, _, rfl, rfl, sqT h, h, fun x hx => by
      rcases List.mem_cons.mp hx with rfl | hx
      · exact .inr ⟨_, rfl⟩
      · rw [List.mem_singleton.mp hx]; exact .inl ⟨_, rfl⟩, Nat.le_of_ble_eq_true rfl⟩
  | tie a l sd m hl hs h => exact .inr ⟨a, a, _, rfl, rfl, sqT h, h, fun x hx => by
      rcases List.mem_cons.mp hx with rfl | hx
      · exact .inr ⟨_, rfl⟩
      rcases List.mem_cons.mp hx with rfl | hx
      · exact .inr ⟨_, rfl⟩
      rcases List.mem_cons.mp hx with rfl | hx
      · exact .inr ⟨_, rfl⟩
      · rw [List.mem_singleton.mp hx]; exact .inl ⟨_, rfl⟩, Nat.le_of_ble_eq_true rfl⟩
theorem BdAt.alk {K : PySem.W.Frag} {H : Hp} {v : V} (h : BdAt v) : AlkAt K H v v := by
  rcases h with rfl | ⟨n, rfl⟩
  · exact .inl ⟨rfl, .inl rfl⟩
  · exact .inl ⟨rfl, .inr (.inl ⟨_, rfl⟩)⟩
theorem CtAt.alk {K : PySem.W.Frag} {H : Hp} {v : V} (h : CtAt v) : AlkAt K H v v := by
  obtain ⟨n, rfl⟩ := h
  exact .inl ⟨rfl, .inr (.inl ⟨_, rfl⟩)⟩
theorem StAt.alk {K : PySem.W.Frag} {H : Hp} {v : V} (h : StAt v) : AlkAt K H v v := by
  rcases h with rfl | ⟨s, _, rfl⟩
  · exact .inl ⟨rfl, .inl rfl⟩
  · exact .inl ⟨rfl, .inr (.inr ⟨_, rfl⟩)⟩
theorem fl4 {n0 n1 n2 n3 : Int} : ∀ x ∈ [V.int n0, .int n1, .int n2, .int n3], FlAt x := fun x hx => by
  rcases List.mem_cons.mp hx with rfl | hx
  · exact .inl ⟨_, rfl⟩
  rcases List.mem_cons.mp hx with rfl | hx
  · exact .inl ⟨_, rfl⟩
  rcases List.mem_cons.mp hx with rfl | hx
  · exact .inl ⟨_, rfl⟩
  · rw [List.mem_singleton.mp hx]; exact .inl ⟨_, rfl⟩
/-! #### a comprehension over a text, all the same thing -/
section
variable {g : TG} {tt : TT} {te : TE} {vs : List Nat} {σ : L2.St} {H1 : Hp} {D : Addr} {Qd : Hp → Prop} {l : List Nat}
theorem lcSc (v : V) (hD : H1 D = none) (hz : l.length ≤ 100000)
    (hs : ∀ (i c : Nat) (H' : Hp) (Kt : V → Hp → Prop) (Kf : Hp → Prop), l[i]? = some c → Same H1 H' → (∀ H4, Same H' H4 → Kt v H4) → LcT g tt te vs σ (.str ⟨#[c]⟩) H' Kt Kf)
    (hd : ∀ H, Same H1 H → H D = some (.lst (List.replicate l.length v)) → Qd H) : LcG (Its (sO l)) g tt te vs σ H1 D Qd := by
  refine ⟨fun i m H => m = l.length - i ∧ i ≤ l.length ∧ Same H1 H ∧ H D = some (.lst (List.replicate i v)), ⟨l.length, rfl, Nat.zero_le _, Same.upd0 hD, upd_same⟩, ?_⟩
  rintro i m H ⟨rfl, hi, s, e⟩
  by_cases hlt : i < l.length
  · refine .inr ⟨?_, fun H => Same H1 H ∧ H D = some (.lst (List.replicate (i + 1) v)), fun H' p' => ⟨l.length - (i + 1), by omega, rfl, hlt, p'⟩, fun x H' y => ?_⟩
    · show i < l.toArray.size
      rw [List.size_toArray]; exact hlt
    · obtain ⟨rfl, c, hc, rfl⟩ := y
      have hc : l.toArray[i]? = some c := hc
      rw [List.getElem?_toArray] at hc
      exact hs i c H' _ _ hc s fun H4 s4 => ⟨_, s4 _ _ e, by rw [List.length_replicate, sizeLine_eq]; omega, Same.mut' (s.trans s4) But.refl.upd hD, by rw [upd_same, List.replicate_succ']⟩
  · have ei : i = l.length := by omega
    subst ei
    refine .inl ⟨?_, hd H s e⟩
    show l.toArray.size ≤ l.length
    rw [List.size_toArray]; exact Nat.le_refl _
end
theorem reps_bl (n : Nat) : List.replicate n (V.bl true) = (List.replicate n true).map V.bl := by rw [List.map_replicate]
theorem reps_all (n : Nat) : (List.replicate n true).all id = true := by
  rw [List.all_eq_true]
  intro x hx
  rw [List.eq_of_mem_replicate hx]; rfl
theorem isN_nat (n : Nat) : isN (.int (n : Int)) = true := by
  unfold isN
  simp
theorem styF_put (w h lw lh mw mh g s r st : V) : putF "stand" st (putF "rims" r (putF "shrink" s (putF "grow" g (putF "most_high" mh (putF "most_wide" mw (putF "least_high" lh (putF "least_wide" lw (putF "high" h (putF "wide" w []))))))))) = styF w h lw lh mw mh g s r st := by kernel_rfl
/-! #### ten values in a list -/
def names10 : List Str := ["wide", "high", "least_wide", "least_high", "most_wide", "most_high", "grow", "shrink", "rims", "stand"]
def styL (fs : List V) : List (Str × V) := names10.zip fs
theorem styL_F (w h lw lh mw mh g s r st : V) : styL [w, h, lw, lh, mw, mh, g, s, r, st] = styF w h lw lh mw mh g s r st := rfl
def OkF (K : PySem.W.Frag) (H : Hp) : Nat → V → Prop
  | 0, v => SzAt H v
  | 1, v => SzAt H v
  | 2, v => BdAt v
  | 3, v => BdAt v
  | 4, v => BdAt v
  | 5, v => BdAt v
  | 6, v => CtAt v
  | 7, v => CtAt v
  | 8, v => RmAt K H v
  | _, v => StAt v
def OkL (K : PySem.W.Frag) (H : Hp) (fs : List V) : Prop := fs.length = 10 ∧ ∀ (i : Nat) (v : V), fs[i]? = some v → OkF K H i v
theorem OkF.same {K : PySem.W.Frag} {H H' : Hp} {i : Nat} {v : V} (h : OkF K H i v) (s : Same H H') : OkF K H' i v :=
  match i, h with
  | 0, h => SzAt.same h s
  | 1, h => SzAt.same h s
  | 2, h => h
  | 3, h => h
  | 4, h => h
  | 5, h => h
  | 6, h => h
  | 7, h => h
  | 8, h => RmAt.same h s
  | _ + 9, h => h
theorem OkL.same {K : PySem.W.Frag} {H H' : Hp} {fs : List V} (h : OkL K H fs) (s : Same H H') : OkL K H' fs := ⟨h.1, fun i v e => (h.2 i v e).same s⟩
theorem OkL.vals {K : PySem.W.Frag} {H : Hp} {w h lw lh mw mh g s r st : V} (k : OkL K H [w, h, lw, lh, mw, mh, g, s, r, st]) : ValsOk K H w h lw lh mw mh g s r st :=
  ⟨k.2 0 _ rfl, k.2 1 _ rfl, k.2 2 _ rfl, k.2 3 _ rfl, k.2 4 _ rfl, k.2 5 _ rfl, k.2 6 _ rfl, k.2 7 _ rfl, k.2 8 _ rfl, k.2 9 _ rfl⟩
theorem ten {fs : List V} (h : fs.length = 10) : ∃ w h' lw lh mw mh g s r st, fs = [w, h', lw, lh, mw, mh, g, s, r, st] :=
  match fs, h with
  | [w, h', lw, lh, mw, mh, g, s, r, st], _ => ⟨w, h', lw, lh, mw, mh, g, s, r, st, rfl⟩
def dfltL (U : Addr) : List V := [.non, .non, .non, .non, .non, .non, .int 0, .int 1, .ref U, .non]
theorem dflt_ok {K : PySem.W.Frag} {H : Hp} {U : Addr} (t : ∀ H, SqT K H U [.int 0, .int 0, .int 0, .int 0]) : OkL K H (dfltL U) := by
  refine ⟨rfl, fun i v e => ?_⟩
  match i, e with
  | 0, e => cases e; exact .non
  | 1, e => cases e; exact .non
  | 2, e => cases e; exact .inl rfl
  | 3, e => cases e; exact .inl rfl
  | 4, e => cases e; exact .inl rfl
  | 5, e => cases e; exact .inl rfl
  | 6, e => cases e; exact ⟨0, rfl⟩
  | 7, e => cases e; exact ⟨1, rfl⟩
  | 8, e => cases e; exact ⟨U, 0, 0, 0, 0, rfl, t H⟩
  | 9, e => cases e; exact .inl rfl
  | n + 10, e => cases e
/-- told at some places -/
def mixL (fs ds : List V) (told : List Nat) : List V := (List.range 10).map fun i => if told.contains i then fs.getD i .non else ds.getD i .non
theorem mix_at {fs ds : List V} {told : List Nat} {i : Nat} (h : i < 10) : (mixL fs ds told)[i]? = some (if told.contains i then fs.getD i .non else ds.getD i .non) := by
  unfold mixL
  rw [List.getElem?_map, List.getElem?_range h]; rfl
theorem mix_ok {K : PySem.W.Frag} {H : Hp} {fs ds : List V} {told : List Nat} (hf : OkL K H fs) (hd : OkL K H ds) : OkL K H (mixL fs ds told) := by
  refine ⟨by unfold mixL; rw [List.length_map, List.length_range], fun i v e => ?_⟩
  have hi : i < 10 := by
    have := (List.getElem?_eq_some_iff.mp e).1
    unfold mixL at this
    rwa [List.length_map, List.length_range] at this
  rw [mix_at hi] at e
  cases e
  split
  · exact hf.2 i _ (by rw [List.getD_eq_getElem?_getD, List.getElem?_eq_getElem (by rw [hf.1]; exact hi)]; rfl)
  · exact hd.2 i _ (by rw [List.getD_eq_getElem?_getD, List.getElem?_eq_getElem (by rw [hd.1]; exact hi)]; rfl)
def sp_Style_init (K : PySem.W.Frag) (C : Addr) : Sp := fun vs H Q _ => ∃ (x dx : Addr) (w h lw lh mw mh g s r st : V), vs = [.ref x, w, h, lw, lh, mw, mh, g, s, r, st] ∧ H x = some (.ins C dx []) ∧ ValsOk K H w h lw lh mw mh g s r st ∧ ∀ H', But x H H' → H' x = some (.ins C dx (styF w h lw lh mw mh g s r st)) → Q .non H'
theorem make_same {H : Hp} {x dx : Addr} {o o' : HO} (fx : H x = none) (fdx : H dx = none) (n : dx ≠ x) : Same H (upd (upd H dx o) x o') := fun b u e => by
  rw [upd_ne (ne_of_none e fx), upd_ne (ne_of_none e fdx)]; exact e
theorem mk_style {K : PySem.W.Frag} {H : Hp} {C : Addr} {fs : List V} {Q : VK} {E : XK} (ok : OkL K H fs) (k : ∀ (x dx : Addr) H', Same H H' → H x = none → H' x = some (.ins C dx (styL fs)) → Q (.ref x) H') :
    ∀ x dx, H x = none → H dx = none → dx ≠ x → sp_Style_init K C (.ref x :: fs) (upd (upd H dx (.own x)) x (.ins C dx [])) (fun v H3 => v = .non ∧ Q (.ref x) H3) E := by
  intro x dx fx fdx n
  obtain ⟨w, h, lw, lh, mw, mh, g, s, r, st, rfl⟩ := ten ok.1
  have sm := make_same (o := HO.own x) (o' := HO.ins C dx []) fx fdx n
  exact ⟨x, dx, w, h, lw, lh, mw, mh, g, s, r, st, rfl, upd_same, ok.vals.same sm, fun H' b e => ⟨rfl, k x dx H' (Same.mut' sm b fx) fx e⟩⟩
theorem SzAt.dr {H H' : Hp} {a : Addr} {v : V} (h : SzAt H v) (hs : Src H a) (d : Dr a H H') : SzAt H' v := by
  obtain ⟨t, ht⟩ := hs
  exact h.but d.b ht
theorem RmAt.dr {K : PySem.W.Frag} {H H' : Hp} {a : Addr} {v : V} (h : RmAt K H v) (hs : Src H a) (d : Dr a H H') : RmAt K H' v := by
  obtain ⟨t, ht⟩ := hs
  exact h.but d.b ht
theorem tup_dr {H H' : Hp} {p a : Addr} {xs : List V} (d : Dr p H H') (hs : Src H p) (h : H a = some (.tup xs)) : H' a = some (.tup xs) := by
  obtain ⟨t, ht⟩ := hs
  exact tup_but d.b ht h
theorem four {α : Type} {us : List α} (h : us.length = 4) : ∃ a b c d, us = [a, b, c, d] :=
  match us, h with
  | [a, b, c, d], _ => ⟨a, b, c, d, rfl⟩
theorem mix_one {w h lw lh mw mh g s r st : V} {U : Addr} : ∀ {i : Nat}, i < 10 → mixL [w, h, lw, lh, mw, mh, g, s, r, st] (dfltL U) [i] = (dfltL U).set i ([w, h, lw, lh, mw, mh, g, s, r, st].getD i .non)
  | 0, _ => rfl
  | 1, _ => rfl
  | 2, _ => rfl
  | 3, _ => rfl
  | 4, _ => rfl
  | 5, _ => rfl
  | 6, _ => rfl
  | 7, _ => rfl
  | 8, _ => rfl
  | 9, _ => rfl
  | n + 10, h => absurd h (by omega)
theorem mk_mix {K : PySem.W.Frag} {H : Hp} {C U : Addr} {fs : List V} {Q : VK} {E : XK} (told : List Nat) (ok : OkL K H fs) (t : ∀ H, SqT K H U [.int 0, .int 0, .int 0, .int 0]) (k : ∀ (x dx : Addr) H', Same H H' → H x = none → H' x = some (.ins C dx (styL (mixL fs (dfltL U) told))) → Q (.ref x) H') :
    ∀ x dx, H x = none → H dx = none → dx ≠ x → sp_Style_init K C (.ref x :: mixL fs (dfltL U) told) (upd (upd H dx (.own x)) x (.ins C dx [])) (fun v H3 => v = .non ∧ Q (.ref x) H3) E :=
  mk_style (mix_ok ok (dflt_ok t)) k
theorem sty_at {K : PySem.W.Frag} {H : Hp} {C x dx : Addr} {fs : List V} {R : Hp → Prop} {E : XK} (ok : OkL K H fs) (fx : H x = none) (fdx : H dx = none) (n : dx ≠ x) (k : ∀ H', Same H H' → H' x = some (.ins C dx (styL fs)) → R H') :
    sp_Style_init K C (.ref x :: fs) (upd (upd H dx (.own x)) x (.ins C dx [])) (fun v H3 => v = .non ∧ R H3) E := by
  obtain ⟨w, h, lw, lh, mw, mh, g, s, r, st, rfl⟩ := ten ok.1
  have sm := make_same (o := HO.own x) (o' := HO.ins C dx []) fx fdx n
  exact ⟨x, dx, w, h, lw, lh, mw, mh, g, s, r, st, rfl, upd_same, ok.vals.same sm, fun H' b e => ⟨rfl, k H' (Same.mut' sm b fx) e⟩⟩
end My

namespace My
open PySem L2
theorem atK {xs : List V} {k : Nat} {v : V} (h : xs[k]? = some v) : atI xs (k : Int) = some v := by
  unfold atI
  rw [ixN_nat (List.getElem?_eq_some_iff.mp h).1]
  exact h
/-- a draw off the first ones of a list -/
theorem pickP {P : V → Prop} {xs : List V} (ys : List V) {n : Int} (h : ∀ x ∈ xs, P x) (h0 : 0 ≤ n) (h1 : n < xs.length) : ∃ x, atI (xs ++ ys) n = some x ∧ P x := by
  obtain ⟨k, rfl⟩ := Int.eq_ofNat_of_zero_le h0
  have hk : k < xs.length := by omega
  exact ⟨xs[k], atK (by rw [List.getElem?_append_left hk]; exact List.getElem?_eq_getElem hk), h _ (List.getElem_mem hk)⟩
theorem allC {P : V → Prop} {x : V} {xs : List V} (h : P x) (t : ∀ y ∈ xs, P y) : ∀ y ∈ x :: xs, P y := List.forall_mem_cons.mpr ⟨h, t⟩
theorem allN {P : V → Prop} : ∀ y ∈ ([] : List V), P y := fun _ h => by cases h
theorem pickA {P : V → Prop} {xs : List V} {n : Int} (h : ∀ x ∈ xs, P x) (h0 : 0 ≤ n) (h1 : n < xs.length) : ∃ x, atI xs n = some x ∧ P x := by
  have := pickP [] h h0 h1
  rwa [List.append_nil] at this
end My

/-! ### slices by plain numbers -/
namespace My
open PySem L2
theorem cutV_take (xs : List V) (j : Nat) : cutV xs none (some (j : Int)) = xs.take j := by
  unfold cutV
  rw [HT.sIx_none, HT.sIx_nat, List.drop_zero, Nat.sub_zero]
  by_cases h : j ≤ xs.length
  · rw [Nat.min_eq_left h]
  · rw [Nat.min_eq_right (by omega), List.take_of_length_le (Nat.le_refl _), List.take_of_length_le (by omega)]
theorem cutV_drop (xs : List V) (j : Nat) : cutV xs (some (j : Int)) none = xs.drop j := by
  unfold cutV
  rw [HT.sIx_none, HT.sIx_nat]
  by_cases h : j ≤ xs.length
  · rw [Nat.min_eq_left h, List.take_of_length_le (by rw [List.length_drop]; omega)]
  · rw [Nat.min_eq_right (by omega), List.drop_of_length_le (Nat.le_refl _), List.drop_of_length_le (by omega), List.take_nil]
theorem cutV_mid (xs : List V) (i j : Nat) (h : i ≤ j) : cutV xs (some (i : Int)) (some (j : Int)) = (xs.take j).drop i := by
  unfold cutV
  rw [HT.sIx_nat, HT.sIx_nat]
  by_cases h1 : i ≤ xs.length
  · by_cases h2 : j ≤ xs.length
    · rw [Nat.min_eq_left h1, Nat.min_eq_left h2, List.drop_take]
    · rw [Nat.min_eq_left h1, Nat.min_eq_right (by omega), List.take_of_length_le (by rw [List.length_drop]; omega), List.take_of_length_le (by omega)]
  · rw [Nat.min_eq_right (show xs.length ≤ i by omega), List.drop_of_length_le (Nat.le_refl _), List.take_nil, List.drop_of_length_le (by rw [List.length_take]; omega)]
theorem cutV_init (xs : List V) : cutV xs none (some (-1)) = xs.take (xs.length - 1) := by
  unfold cutV
  have e : HT.sIx xs.length xs.length (some (-1)) = xs.length - 1 := by
    show (if (-1 : Int) < 0 then ((-1 : Int) + (xs.length : Int)).toNat else min (-1 : Int).toNat xs.length) = xs.length - 1
    rw [if_pos (by decide)]; omega
  rw [HT.sIx_none, e, List.drop_zero, Nat.sub_zero]
end My

/-! ### texts: signs, pieces -/
namespace My
open PySem L2
theorem at_some {α : Type} {xs : List α} {i : Int} (h0 : 0 ≤ i) (h1 : i < xs.length) : ∃ c, atI xs i = some c ∧ c ∈ xs := by
  obtain ⟨k, rfl⟩ := Int.eq_ofNat_of_zero_le h0
  have hk : k < xs.length := by omega
  refine ⟨xs[k], ?_, List.getElem_mem hk⟩
  unfold atI
  rw [ixN_nat hk]
  exact List.getElem?_eq_getElem hk
theorem strOk_iff {x : Str} : PyData.strOk x = true ↔ ∀ c ∈ x.cps.toList, c < 0x110000 := by
  unfold PyData.strOk
  rw [← Array.all_toList, List.all_eq_true]
  exact ⟨fun h c hc => of_decide_eq_true (h c hc), fun h c hc => decide_eq_true (h c hc)⟩
theorem strOk_one {c : Nat} (h : c < 0x110000) : PyData.strOk ⟨#[c]⟩ = true := strOk_iff.mpr fun d hd => by
  rw [List.mem_singleton.mp hd]; exact h
theorem strOk_append {x y : Str} (hx : PyData.strOk x = true) (hy : PyData.strOk y = true) : PyData.strOk (x ++ y) = true := strOk_iff.mpr fun c hc => by
  have : c ∈ (x.cps ++ y.cps).toList := hc
  rw [Array.toList_append] at this
  rcases List.mem_append.mp this with h | h
  · exact strOk_iff.mp hx c h
  · exact strOk_iff.mp hy c h
theorem strOk_cut {x : Str} {lo hi : Option Int} (hx : PyData.strOk x = true) : PyData.strOk (cutS x lo hi) = true := strOk_iff.mpr fun c hc => by
  have : c ∈ (x.cps.toList.drop (HT.sIx x.length 0 lo)).take (HT.sIx x.length x.length hi - HT.sIx x.length 0 lo) := hc
  exact strOk_iff.mp hx c (List.mem_of_mem_drop (List.mem_of_mem_take this))
theorem str_sign {x : Str} {i : Int} (h0 : 0 ≤ i) (h1 : i < x.length) (ok : PyData.strOk x = true) : ∃ c, atI x.cps.toList i = some c ∧ PyData.strOk ⟨#[c]⟩ = true := by
  obtain ⟨c, h, m⟩ := at_some (xs := x.cps.toList) h0 (by rw [Array.length_toList]; exact h1)
  exact ⟨c, h, strOk_one (strOk_iff.mp ok c m)⟩
end My

/-! ### != of lists of like items: the same ones, or lists of the same ones -/
namespace My
open PySem PySem.Spec PyProof.Rows L2
def PlainQ (x : V) : Prop := flatB x = true ∨ ∃ r, x = .ref r
def EqQ (K : PySem.W.Frag) (H : Hp) (u v : V) : Prop := (u = v ∧ PlainQ u) ∨ ∃ a b zs, u = .ref a ∧ v = .ref b ∧ SqL K H a zs ∧ SqL K H b zs ∧ ∀ z ∈ zs, PlainQ z
def rNeQ (K : PySem.W.Frag) : R2 := fun x y H Q => ∃ a b xs ys, x = .ref a ∧ y = .ref b ∧ SqL K H a xs ∧ SqL K H b ys ∧ Paired (EqQ K H) xs ys ∧ Q (.bl false) H
theorem plainQ_at {A : Around} {s : Shared} {x : V} {u w : Value} (h : PlainQ x) (r : RelV x u) (r' : RelV x w) : SeqAt.EqAt A s u w true := by
  rcases h with h | ⟨a, rfl⟩
  · exact eqAt_same r r' h
  · cases (show u = Value.ref a from r)
    cases (show w = Value.ref a from r')
    exact SeqAt.EqAt.same _
theorem plainQ_all {A : Around} {s : Shared} : ∀ {xs : List V} {us ws : List Value}, (∀ x ∈ xs, PlainQ x) → Vals xs us → Vals xs ws → ∀ j (h1 : j < us.length) (h2 : j < ws.length), SeqAt.EqAt A s us[j] ws[j] true
  | _, _, _, _, .nil, .nil, j, h1, _ => absurd h1 (Nat.not_lt_zero j)
  | _, _, _, hp, .cons a1 b1, .cons a2 b2, 0, _, _ => plainQ_at (hp _ List.mem_cons_self) a1 a2
  | _, _, _, hp, .cons a1 b1, .cons a2 b2, j + 1, h1, h2 => plainQ_all (fun y hy => hp y (List.mem_cons_of_mem _ hy)) b1 b2 j (Nat.lt_of_succ_lt_succ h1) (Nat.lt_of_succ_lt_succ h2)
section
variable {X : Cx} {pins : List (Addr × Obj)} {σ : L2.St} {H : Hp} {s : Shared}
theorem eqQ_at (I : Inv X pins σ H s) {A : Around} (hu : A.units < cLine) {x y : V} {u w : Value} (h : EqQ X.K H x y) (r : RelV x u) (r' : RelV y w) : SeqAt.EqAt A s u w true := by
  rcases h with ⟨rfl, hp⟩ | ⟨a, b, zs, rfl, rfl, ha, hb, hp⟩
  · exact plainQ_at hp r r'
  · cases (show u = Value.ref a from r)
    cases (show w = Value.ref b from r')
    by_cases e : a = b
    · subst e; exact SeqAt.EqAt.same _
    · obtain ⟨us, r1, p1, _⟩ := I.list ha
      obtain ⟨ws, r2, p2, _⟩ := I.list hb
      have hsz : us.toArray.size = ws.toArray.size := by
        rw [List.size_toArray, List.size_toArray, ← r1.length, ← r2.length]
      refine SeqAt.EqAt.of_refs e ?_
      have k := SeqAt.RcAt.lists (e := fun _ => true) p1.isList p2.isList hsz hu (A := A) (fun j h1 h2 => by
        have := plainQ_all (A := A.in1) (s := s) hp r1 r2 j (by simpa using h1) (by simpa using h2)
        simpa using this)
      rwa [show ((List.range us.toArray.size).all fun _ => true) = true from List.all_eq_true.mpr fun _ _ => rfl] at k
theorem eqQ_all (I : Inv X pins σ H s) {A : Around} (hu : A.units < cLine) {xs ys : List V} (h : Paired (EqQ X.K H) xs ys) : ∀ {us ws : List Value}, Vals xs us → Vals ys ws → ∀ j (h1 : j < us.length) (h2 : j < ws.length), SeqAt.EqAt A s us[j] ws[j] true := by
  induction h with
  | nil =>
    intro us ws r1 r2 j h1 h2
    cases r1
    exact absurd h1 (Nat.not_lt_zero j)
  | cons h _ k =>
    intro us ws r1 r2 j h1 h2
    cases r1 with
    | cons a1 b1 =>
      cases r2 with
      | cons a2 b2 =>
        cases j with
        | zero => exact eqQ_at I hu h a1 a2
        | succ j => exact k b1 b2 j (Nat.lt_of_succ_lt_succ h1) (Nat.lt_of_succ_lt_succ h2)
end
theorem op_neQ {X : Cx} (hu : X.A.units + 64 < cLine) : OpR X (compareOp .NotEq) (rNeQ X.K) := by
  intro pins s σ H x y v u Q I rx ry h
  obtain ⟨a, b, xs, ys, rfl, rfl, ha, hb, hp, q⟩ := h
  cases (show v = Value.ref a from rx)
  cases (show u = Value.ref b from ry)
  obtain ⟨us, r1, p1, _⟩ := I.list ha
  obtain ⟨ws, r2, p2, _⟩ := I.list hb
  have hsz : us.toArray.size = ws.toArray.size := by
    rw [List.size_toArray, List.size_toArray, ← r1.length, ← r2.length]
    exact Paired.length hp
  have k := SeqAt.RcNeAt.lists (e := fun _ => true) p1.isList p2.isList hsz (show X.A.units < cLine by omega) (fun j h1 h2 => by
    have := eqQ_all I (A := X.A.in1) (show X.A.units + 1 < cLine by omega) hp r1 r2 j (by simpa using h1) (by simpa using h2)
    simpa using this)
  rw [show ((List.range us.toArray.size).all fun _ => true) = true from List.all_eq_true.mpr fun _ _ => rfl] at k
  exact k _ _ _ _ ⟨.bl false, H, I, rfl, q⟩
theorem op_neQK {X : Cx} {K : PySem.W.Frag} (hu : X.A.units + 64 < cLine) (h : X.K = K) : OpR X (compareOp .NotEq) (rNeQ K) := by subst h; exact op_neQ hu
theorem eqQ_refl {K : PySem.W.Frag} {H : Hp} : ∀ {xs : List V}, (∀ x ∈ xs, PlainQ x) → Paired (EqQ K H) xs xs
  | [], _ => .nil
  | x :: xs, h => .cons (.inl ⟨rfl, h x (List.mem_cons_self ..)⟩) (eqQ_refl fun y hy => h y (List.mem_cons_of_mem _ hy))
end My

/-! ### a plain thing != [] -/
namespace PySem.SeqAt
open MeetsSeq MeetsSeq2 MeetsSeq3
theorem my_list_ne_declines_dict (l b : Addr) (items : Array Value) (n : Nat) (dd : Option Addr) (sl : Array (Option Value)) (o : Obj) (ho : o.cls = .type "dict") :
    Meets (Builtin.«list.__ne__» ⟨[.ref l, .ref b], []⟩) (fun _ R s => s.heap.get? l = some { cls := .type "list", dict := dd, data := .seq items n, slots := sl } ∧ s.heap.get? b = some o ∧ R (.ok (.ret .notImplemented)) s) :=
  .of_wp fun prog w A R s h => by obtain ⟨hp, g, d, tk, os⟩ := s; obtain ⟨hl, hb, h⟩ := h; obtain ⟨cls, dd2, data2, sl2⟩ := o; subst ho; have f1 := F.sub_dict_list; wp_walk using _root_.PySem.AutoSeq1.wpAny_loadPart' hl, _root_.PySem.AutoSeq1.wpAny_loadPart' hb; exact ⟨_, rfl, h⟩
theorem my_dict_ne_declines {M : Unit} {prog : Program} {w : World} {A : Around} {E Q : Value → Shared → Prop} {s : Shared} {a b : Addr} (da : s.TypeIs (.ref a) "dict") (tb : s.TypeIs (.ref b) "list") (h : Q .notImplemented s) :
    wpAny (model prog w) A (call (.builtin "dict.__ne__") [.ref a, .ref b]) Q E s := by
  refine wpAny_call_entry PySem.F.slot_dict_ne da PySem.F.entry_dict_ne ?_ (PySem.F.args_dict_ne_2 _ _)
  show wpAny _ _ (Builtin.Dict.dictSlotArgs "__ne__" ⟨[.ref a, .ref b], []⟩ >>= _) _ _ s
  refine wpAny_bind ?_
  unfold Builtin.Dict.dictSlotArgs
  refine wpAny_bind (wpAny_notOrdered_dict da ?_)
  show wpAny _ _ (pure (Value.ref a, Value.ref b)) _ _ s
  refine wpAny_pure ?_
  refine wpAny_bind (wpAny_isInstance (T := "list") tb PySem.F.sub_list_dict ?_)
  simp only [Bool.not_false, if_true]
  exact wpAny_bind (wpAny_rule (wpAny_pure ⟨_, rfl, h⟩))
theorem RcNeAt.my_dict_list {A : Around} {s : Shared} {l b : Addr} {o : Obj} {items2 : Array Value} (ho : s.heap.get? l = some o) (oc : o.cls = .type "dict") (hb : s.heap.IsList b items2) (hu : A.units < cLine) : RcNeAt A s (.ref l) (.ref b) true := fun prog w E Q h => by
  obtain ⟨⟨cls2, dd2, data2, sl2⟩, ho2, hc2, n2, hd2⟩ := id hb
  simp only at hc2 hd2
  subst hc2 hd2
  have hne : l ≠ b := fun e => by subst e; rw [ho] at ho2; cases ho2; exact absurd oc (by simp)
  exact (rc_ne_decline_or (k := false) ⟨_, ho, oc⟩ ⟨_, ho2, rfl⟩ (by decide) F.sub_list_dict F.slot_dict_ne F.slot_list_ne_refl
    (fun _ hq => my_dict_ne_declines (M := ()) ⟨_, ho, oc⟩ ⟨_, ho2, rfl⟩ hq)
    (fun _ hq => call_meets F.slot_list_ne_refl ⟨_, ho2, rfl⟩ F.entry_list_ne (F.args_list_ne_2 _ _) (my_list_ne_declines_dict b l items2 n2 dd2 sl2 o oc) ⟨ho2, ho, hq⟩)
    (fun _ hq => wpAny_isSame_ref_other' hne ho ho2 (by simp) hq) (.inr hu) h)
end PySem.SeqAt
namespace My
open PySem PySem.Spec PyProof.Rows L2
def rNe0 (K : PySem.W.Frag) : R2 := fun x y H Q => ∃ b, y = .ref b ∧ SqL K H b [] ∧ ((∃ ty, Ty7 H x ty ∧ ty ≠ "list" ∧ Q (.bl true) H) ∨ ∃ a xs, x = .ref a ∧ SqL K H a xs ∧ Q (.bl (!xs.isEmpty)) H)
theorem op_ne0 {X : Cx} (hu : X.A.units + 64 < cLine) : OpR X (compareOp .NotEq) (rNe0 X.K) := by
  intro pins s σ H x y v u Q I rx ry h
  obtain ⟨b, rfl, hb, h⟩ := h
  cases (show u = Value.ref b from ry)
  obtain ⟨ws, r2, p2, _⟩ := I.list hb
  have h1 : X.A.units < cLine := by omega
  cases r2
  rcases h with ⟨ty, h7, n, q⟩ | ⟨a, xs, rfl, ha, q⟩
  · suffices hh : SeqAt.RcNeAt X.A s v (.ref b) true from hh _ _ _ _ ⟨.bl true, H, I, rfl, q⟩
    cases h7 with
    | non => cases (show v = Value.none from rx); exact (SeqAt.RcNeAt.none_list p2.isList h1)
    | bl t => cases (show v = Value.bool t from rx); exact (SeqAt.RcNeAt.bool_list t p2.isList h1)
    | int i => obtain ⟨tk, rfl⟩ := (show ∃ tk, v = Value.int i tk from rx); exact (SeqAt.RcNeAt.int_list i tk p2.isList h1)
    | str i => obtain ⟨tk, rfl⟩ := (show ∃ tk, v = Value.str i tk from rx); exact (SeqAt.RcNeAt.str_list i tk p2.isList h1)
    | lst g => exact absurd rfl n
    | @tup c zs g =>
      cases (show v = Value.ref c from rx)
      obtain ⟨us, r1, p1, _⟩ := I.tuple (sqT g)
      exact (SeqAt.RcNeAt.tuple_list p1 p2.isList h1)
    | @dK c kvs g =>
      cases (show v = Value.ref c from rx)
      obtain ⟨_, _, vs, _, d⟩ := I.hok _ _ g
      obtain ⟨o, ho, oc⟩ := d.typeIs
      exact (SeqAt.RcNeAt.my_dict_list ho oc p2.isList h1)
  · cases (show v = Value.ref a from rx)
    obtain ⟨us, r1, p1, _⟩ := I.list ha
    cases xs with
    | nil =>
      cases r1
      have k := SeqAt.RcNeAt.lists (e := fun _ => true) p1.isList p2.isList rfl h1 (fun j h1 h2 => absurd h1 (Nat.not_lt_zero j))
      exact k _ _ _ _ ⟨.bl false, H, I, rfl, q⟩
    | cons x xs =>
      cases r1 with
      | cons a1 b1 =>
        have k := SeqAt.RcNeAt.lists_lengths p1.isList p2.isList (by simp) h1
        exact k _ _ _ _ ⟨.bl true, H, I, rfl, q⟩
theorem op_ne0K {X : Cx} {K : PySem.W.Frag} (hu : X.A.units + 64 < cLine) (h : X.K = K) : OpR X (compareOp .NotEq) (rNe0 K) := by subst h; exact op_ne0 hu
end My

/-! ### things of any kind: asked by isinstance, sought in a tuple of texts -/
namespace PySem.SeqAt
open MeetsSeq MeetsSeq2 MeetsSeq3
theorem my_str_eq_declines_dict (b : Str) (u : Tok) (l : Addr) (o : Obj) (ho : o.cls = .type "dict") (hp : ∀ z, o.data ≠ .prim z) :
    Meets (Builtin.«str.__eq__» ⟨[.str b u, .ref l], []⟩) (fun _ R s => s.heap.get? l = some o ∧ R (.ok (.ret .notImplemented)) s) :=
  .of_wp fun prog w A R s h => by obtain ⟨hpp, g, d, tk, os⟩ := s; obtain ⟨hl, h⟩ := h; obtain ⟨cls, dd2, data2, sl2⟩ := o; subst ho; have f1 := F.sub_dict_str; cases data2 <;> first | exact absurd rfl (hp _) | (wp_walk using _root_.PySem.AutoSeq1.wpAny_loadPart' hl; exact ⟨_, rfl, h⟩)
theorem my_dict_eq_declines {M : Unit} {prog : Program} {w : World} {A : Around} {E Q : Value → Shared → Prop} {s : Shared} {a : Addr} {b : Str} {u : Tok} (da : s.TypeIs (.ref a) "dict") (h : Q .notImplemented s) :
    wpAny (model prog w) A (call (.builtin "dict.__eq__") [.ref a, .str b u]) Q E s := by
  refine wpAny_call_entry PySem.F.slot_dict_eq_refl da PySem.F.entry_dict_eq ?_ (PySem.F.args_dict_eq_2 _ _)
  show wpAny _ _ (Builtin.Dict.dictSlotArgs "__eq__" ⟨[.ref a, .str b u], []⟩ >>= _) _ _ s
  refine wpAny_bind ?_
  unfold Builtin.Dict.dictSlotArgs
  refine wpAny_bind (wpAny_notOrdered_dict da ?_)
  show wpAny _ _ (pure (Value.ref a, Value.str b u)) _ _ s
  refine wpAny_pure ?_
  refine wpAny_bind (wpAny_isInstance (T := "str") (typeIs_str s b u) PySem.F.sub_str_dict ?_)
  simp only [Bool.not_false, if_true]
  exact wpAny_bind (wpAny_rule (wpAny_pure ⟨_, rfl, h⟩))
theorem RcAt.my_str_dict {A : Around} {s : Shared} {l : Addr} {o : Obj} (b : Str) (u : Tok) (ho : s.heap.get? l = some o) (oc : o.cls = .type "dict") (hp : ∀ z, o.data ≠ .prim z) (hu : A.units < cLine) : RcAt A s (.str b u) (.ref l) false := fun prog w E Q h => by
  exact rc_eq_decline_or (k := false) (typeIs_str s b u) ⟨_, ho, oc⟩ (by decide) F.sub_dict_str F.slot_str_eq F.slot_dict_eq_refl
    (fun _ hq => call_meets F.slot_str_eq (typeIs_str s b u) F.entry_str_eq (F.args_str_eq_2 _ _) (my_str_eq_declines_dict b u l o oc hp) ⟨ho, hq⟩)
    (fun _ hq => my_dict_eq_declines (M := ()) ⟨_, ho, oc⟩ hq)
    (fun _ hq => wpAny_of_eq (rfl : isSame (.str b u) (.ref l) = pure false) hq) (.inr hu) h
theorem EqAt.my_str_dict {A : Around} {s : Shared} {l : Addr} {o : Obj} (b : Str) (u : Tok) (ho : s.heap.get? l = some o) (oc : o.cls = .type "dict") (hp : ∀ z, o.data ≠ .prim z) (hu : A.units < cLine) : EqAt A s (.str b u) (.ref l) false := fun prog w E Q h => by
  unfold eqBool
  refine wpAny_holding ?_
  refine wpAny_ite_split (fun hab => absurd (eq_of_beq hab) nofun) (fun _ => ?_)
  exact wpAny_bind (RcAt.my_str_dict b u ho oc hp hu prog w E _ (wpAny_truthy_bool h))
end PySem.SeqAt
namespace My
open PySem PySem.Spec PyProof.Rows L2
/-! #### instances among plain things -/
theorem kit_ownT {K : PySem.W.Frag} {C : Addr} {b : Bool} {n : String} (h : PySem.W.subIn K (.ref C) (.type n) = some b) (m : PySem.W.kitMeta n = true := by decide +kernel) : PySem.W.kitOne K (.ref C) (.type n) = some b := by
  unfold PySem.W.kitOne
  split
  · next q =>
    have z : (Value.ref C) = .type n := beq_iff_eq.mp q
    cases z
  · show (if PySem.W.kitMeta n = true then PySem.W.subIn K (.ref C) (.type n) else none) = some b
    rw [if_pos m]
    exact h
/-- what isinstance asks of the own class C: it is none of the builtin ones -/
structure Pl (K : PySem.W.Frag) (C : Addr) : Prop where
  cl : Cls K C
  ha : PySem.W.findIn K (.ref C) "__class__" = some (some (.builtin "object.__class__"))
  hn : PySem.W.specialIn K (.builtin "object.__class__") "__get__" = some (some (.builtin "getset_descriptor.__get__"))
  ht : PySem.W.takesIn K (.builtin "object.__class__") = some true
  hm : PySem.W.mroIn K C (.type "object") = some true
  ki : PySem.W.kitOne K (.ref C) (.type "int") = some false
  kb : PySem.W.kitOne K (.ref C) (.type "bool") = some false
  ks : PySem.W.kitOne K (.ref C) (.type "str") = some false
  kt : PySem.W.kitOne K (.ref C) (.type "tuple") = some false
  kl : PySem.W.kitOne K (.ref C) (.type "list") = some false
inductive Ty8 (K : PySem.W.Frag) (H : Hp) : V → String → Prop
  | of {x : V} {t : String} (h : Ty7 H x t) : Ty8 K H x t
  | ins {a C dx : Addr} {fs : List (Str × V)} (h : H a = some (.ins C dx fs)) (p : Pl K C) : Ty8 K H (.ref a) "object"
section
variable {K : PySem.W.Frag} {H H' : Hp} {x : V} {t : String}
theorem Ty8.same (h : Ty8 K H x t) (s : Same H H') : Ty8 K H' x t := by
  cases h with
  | of h => exact .of (h.mono s)
  | ins h p => exact .ins (s _ _ h) p
def rIs8 (K : PySem.W.Frag) (T : String) (ans : V → String → Bool) : List V → Hp → VK → Prop := fun xs H Q => ∃ x t, xs = [x, .ty T] ∧ Ty8 K H x t ∧ Q (.bl (ans x t)) H
theorem call_isTy8 {X : Cx} (hK : X.K = K) (T : String) (ans : V → String → Bool) (h : ∀ H x t, Ty7 H x t → kitB t T = some (ans x t)) (h2 : ∀ a C, Pl K C → PySem.W.kitOne K (.ref C) (.type T) = some (ans (.ref a) "object")) : CallR X (.builtin "isinstance") (rIs8 K T ans) := by
  subst hK
  exact callR_imp call_isi fun _ H Q ⟨x, t, e, ht, q⟩ => by
    cases ht with
    | of ht => exact ⟨x, _, _, _, _, e, .ty _, ht.tx, kit_ty (h H x t ht), q⟩
    | ins hg p => exact ⟨_, _, _, _, _, e, .ty _, .base (.ins hg p.cl p.ha p.hn p.ht p.hm), h2 _ _ p, q⟩
end
section
variable {X : Cx} {K : PySem.W.Frag} (hK : X.K = K)
include hK
theorem is_list8 : CallR X (.builtin "isinstance") (rIs8 K "list" fun _ t => decide (t = "list")) := call_isTy8 hK _ _ (fun _ _ _ h => h.kl) fun _ _ p => p.kl
theorem is_tuple8 : CallR X (.builtin "isinstance") (rIs8 K "tuple" fun _ t => decide (t = "tuple")) := call_isTy8 hK _ _ (fun _ _ _ h => h.kt) fun _ _ p => p.kt
theorem is_str8 : CallR X (.builtin "isinstance") (rIs8 K "str" fun _ t => decide (t = "str")) := call_isTy8 hK _ _ (fun _ _ _ h => h.ks) fun _ _ p => p.ks
theorem is_int8 : CallR X (.builtin "isinstance") (rIs8 K "int" fun x _ => isI x || isB x) := call_isTy8 hK _ _ (fun _ _ _ h => h.ki) fun _ _ p => p.ki
theorem is_bool8 : CallR X (.builtin "isinstance") (rIs8 K "bool" fun x _ => isB x) := call_isTy8 hK _ _ (fun _ _ _ h => h.kb) fun _ _ p => p.kb
end
def rIsT8 (K : PySem.W.Frag) : List V → Hp → VK → Prop := fun xs H Q => ∃ x, xs = [x, .ty "tuple"] ∧ ((∃ t, Ty8 K H x t ∧ Q (.bl (decide (t = "tuple"))) H) ∨ ∃ (a : Addr) (ys : List V), x = .ref a ∧ SqT K H a ys ∧ Q (.bl true) H)
theorem is_tuple9 {X : Cx} {K : PySem.W.Frag} (hK : X.K = K) : CallR X (.builtin "isinstance") (rIsT8 K) := by
  intro pins s σ H xs us Q I r h
  obtain ⟨x, rfl, ⟨t, h8, q⟩ | ⟨a, ys, rfl, hs, q⟩⟩ := h
  · exact is_tuple8 hK pins s σ H _ us Q I r ⟨x, t, rfl, h8, q⟩
  · exact call_isTupK hK pins s σ H _ us Q I r (.inr ⟨a, ys, rfl, hs, q⟩)
/-! #### sought in a tuple of texts -/
def isSt (ts : List Str) : V → Bool
  | .str s => decide (s ∈ ts)
  | _ => false
def rIn7 (K : PySem.W.Frag) (neg : Bool) : R2 := fun x y H Q => ∃ (p : Addr) (ts : List Str) (t : String), y = .ref p ∧ SqT K H p (ts.map V.str) ∧ Ty7 H x t ∧ Q (.bl (if neg = true then !(isSt ts x) else isSt ts x)) H
def eqS7 (u : Value) (x : V) : Bool :=
  match u, x with
  | .str s _, .str s' => s == s'
  | _, _ => false
theorem any_eqS7 {x : V} : ∀ {ts : List Str} {us : List Value}, Vals (ts.map V.str) us → us.any (fun u => eqS7 u x) = isSt ts x
  | [], _, .nil => by cases x <;> rfl
  | t :: ts, _, .cons r v => by
    obtain ⟨tk, rfl⟩ := (show ∃ tk, _ = Value.str t tk from r)
    rw [List.any_cons, any_eqS7 v]
    cases x with
    | str s =>
      show ((t == s) || decide (s ∈ ts)) = decide (s ∈ t :: ts)
      by_cases e : t = s
      · subst e; simp
      · rw [show (t == s) = false from beq_false_of_ne e]
        rw [Bool.false_or]; exact decide_eq_decide.mpr ⟨fun m => List.mem_cons_of_mem _ m, fun m => (List.mem_cons.mp m).elim (fun z => absurd z.symm e) id⟩
    | _ => rfl
theorem eq_at7 {X : Cx} {A : Around} {pins : List (Addr × Obj)} {σ : L2.St} {H : Hp} {s : Shared} {x : V} {v : Value} {t : String} (h1 : A.units < cLine) (I : Inv X pins σ H s) (rx : RelV x v) (h7 : Ty7 H x t) : ∀ {ts : List Str} {us : List Value}, Vals (ts.map V.str) us → ∀ u ∈ us, SeqAt.EqAt A s u v (eqS7 u x)
  | [], _, .nil, u, m => by cases m
  | z :: ts, _, .cons r vv, u, m => by
    rcases List.mem_cons.mp m with rfl | m
    · obtain ⟨tk, rfl⟩ := (show ∃ tk, u = Value.str z tk from r)
      cases h7 with
      | non => cases (show v = Value.none from rx); exact SeqAt.EqAt.str_none _ _
      | bl b => cases (show v = Value.bool b from rx); exact SeqAt.EqAt.str_bool _ _ _
      | int i => obtain ⟨tk', rfl⟩ := (show ∃ tk, v = Value.int i tk from rx); exact SeqAt.EqAt.str_int _ _ _ _
      | str i => obtain ⟨tk', rfl⟩ := (show ∃ tk, v = Value.str i tk from rx); exact SeqAt.EqAt.str_str _ _ _ _
      | lst g =>
        cases (show v = Value.ref _ from rx)
        obtain ⟨us, r1, p1, _⟩ := I.list (sqL g)
        exact SeqAt.EqAt.str_list _ _ p1.isList h1
      | tup g =>
        cases (show v = Value.ref _ from rx)
        obtain ⟨us, r1, p1, _⟩ := I.tuple (sqT g)
        exact SeqAt.EqAt.str_tuple _ _ p1 h1
      | dK g =>
        cases (show v = Value.ref _ from rx)
        obtain ⟨_, _, vs, _, d⟩ := I.hok _ _ g
        obtain ⟨o, es, ep, ho, hx, hdt, _⟩ := id d
        exact SeqAt.EqAt.my_str_dict _ _ ho hx.1 (fun z e => by rw [hdt] at e; cases e) h1
    · exact eq_at7 h1 I rx h7 vv u m
theorem op_in7 {X : Cx} {K : PySem.W.Frag} (hu : X.A.units + 64 < cLine) (hK : X.K = K) : OpR X (compareOp .In) (rIn7 K false) := by
  subst hK
  intro pins s σ H x y v u Q I rx ry h
  obtain ⟨p, ts, t, rfl, hq, h7, q⟩ := h
  cases ry
  obtain ⟨its, r, pl, hz⟩ := I.tuple hq
  refine SeqAt.in_tupleAt (fun w => eqS7 w x) pl (fun w hw => eq_at7 (show X.A.units + 1 < cLine by omega) I rx h7 r w (by simpa using hw)) ⟨.bl _, H, I, rfl, ?_⟩
  rw [show its.toArray.any (fun w => eqS7 w x) = its.any (fun w => eqS7 w x) by simp, any_eqS7 r]
  exact q
theorem op_notIn7 {X : Cx} {K : PySem.W.Frag} (hu : X.A.units + 64 < cLine) (hK : X.K = K) : OpR X (compareOp .NotIn) (rIn7 K true) := by
  subst hK
  intro pins s σ H x y v u Q I rx ry h
  obtain ⟨p, ts, t, rfl, hq, h7, q⟩ := h
  cases ry
  obtain ⟨its, r, pl, hz⟩ := I.tuple hq
  refine SeqAt.notIn_tupleAt (fun w => eqS7 w x) pl (fun w hw => eq_at7 (show X.A.units + 1 < cLine by omega) I rx h7 r w (by simpa using hw)) ⟨.bl _, H, I, rfl, ?_⟩
  rw [show its.toArray.any (fun w => eqS7 w x) = its.any (fun w => eqS7 w x) by simp, any_eqS7 r]
  exact q
end My

/-! ### a def that is handed the exception that is handled -/
namespace My
open PySem PySem.Spec PyProof.Rows L2 L2H
/-- what such a def promises: a promise for each class of the exception, at its address -/
structure FnX (P : Program) (w : World) (K : PySem.W.Frag) (mg : Str → Option Value) (base : Heap) (CX : CXT) (k : Nat) (f : Addr) (fd : FuncData) (ps : List Str) (sp : Addr → Value → Option Addr → Sp) : Prop where
  len : ∀ a cls d vs H Q E, sp a cls d vs H Q E → vs.length = ps.length
  run : ∀ (A : Around) (outer : List Env) (s : Shared) (H : Hp) (args : Args) (us : List Value) (vs : List V) (Q : VK) (E : XK) (p : Addr × Obj) (cls : Value) (d : Option Addr), RoomH k A → Hot1 A p → Zc cls d p.2 → PinOk outer H s p → Env0 P w K mg base A outer s H → BindsTo s fd args (ps.zip us) → Vals vs us → sp p.1 cls d vs H Q E →
    codeAny (model P w) A (.call (.ref f) args) (CR CX outer P w H s Q E) s
/-- such a def by its body: the rule for a def called in a suite, at this one exception -/
theorem fnX_of {CX : CXT} {P : Program} {w : World} {K : PySem.W.Frag} {mg : Str → Option Value} {base : Heap} {k : Nat} {x qual : Str} {st : Stmt} {f : Addr} {fd : FuncData} {N ps : List Str} {sp : Addr → Value → Option Addr → Sp} (F : Fun K x qual st f fd) (S : FnScope N ps (defScope st))
    (len : ∀ a cls d vs H Q E, sp a cls d vs H Q E → vs.length = ps.length)
    (hbody : ∀ (cdv : Value) (A : Around) (outer : List Env) (s : Shared) (H : Hp) (vs : List V) (Q : VK) (E : XK) (p : Addr × Obj) (cls : Value) (d : Option Addr), Hot1 A p → Zc cls d p.2 → RoomH k (A.deeper (envOfC qual (defScope st) s.heap.objs.size f cdv)) → sp p.1 cls d vs H Q E →
      ∃ t, PSs (cxH CX P w K mg base N qual (defScope st) f cdv A outer s H E p) (defBody st) t ∧ t { nx := fun _ H' => Q .non H', rt := Q } (L2.start N vs) H) :
    FnX P w K mg base CX (k + 1) f fd ps sp := by
  obtain ⟨oc, od, kV, doc, pm, an, cdv, ct, osl, rfl, lk, hcd⟩ := F.ex
  refine ⟨len, fun A outer s H args us vs Q E p cls d hr hot hz hpin e0 hb r hsp => ?_⟩
  have hl := len _ _ _ _ _ _ _ hsp
  have KX : K.In s.heap := e0.mod.kin.keeps fun b o e => (e0.bs b o e).1
  have lim : s.heap.NoLimit := e0.mod.nolimit.keeps fun b o e => (e0.bs b o e).1
  have hkind : ∀ y ∈ ps.zip us, (defScope st).names.lookup y.1 = some .local ∨ ((defScope st).names.lookup y.1 = some .cell ∧ ((cellsFrom (s.heap.objs.size + 1) (defScope st).names []).lookup y.1).isSome = true) := fun ⟨n, v⟩ hy => by
    rcases S.par n (List.of_mem_zip hy).1 with q | q
    · exact .inl q
    · exact .inr ⟨q, PySem.W.cellsFrom_some _ _ _ (.inl q)⟩
  refine codeAny_call_function hr.depth (KX _ _ lk) rfl S.co S.gen rfl (PySem.W.codeRec_of KX hcd) (hb _ _ _ _ ?_)
  refine wpAny_newFunctionEnv_cells S.kind hkind fun env he s1 x => ?_
  subst he
  refine ⟨lim.keeps x.toInCall.keep, codeAny_func ?_⟩
  obtain ⟨t, ht, hq⟩ := hbody cdv A outer s H vs Q E p cls d hot hz (hr.deeper _) hsp
  have I : Inv (cxH CX P w K mg base N qual (defScope st) f cdv A outer s H E p) [] (L2.start N vs) H s1 := inv_startH S hpin e0 hl r x
  refine wpAny_mono (ht.run [] s1 (L2.start N vs) H _ I hq) (fun fl s' hs => ?_) fun e s' hs => hs
  cases fl with
  | ret u =>
    obtain ⟨v, σ', H', J, rv, q⟩ := hs
    exact ⟨v, H', J.os, J.bare, J.base, J.hok, rv, q⟩
  | next =>
    obtain ⟨σ', H', J, q⟩ := hs
    exact ⟨V.non, H', J.os, J.bare, J.base, J.hok, rfl, q⟩
  | brk =>
    obtain ⟨_, _, _, q⟩ := hs
    exact False.elim q
  | cont =>
    obtain ⟨_, _, _, q⟩ := hs
    exact False.elim q
section
variable {X : Cx} {CX : CXT} {k : Nat} {f a : Addr} {fd : FuncData} {ps : List Str} {sp : Addr → Value → Option Addr → Sp} {E : L2.St → XK} {x : Str} {q pos : Pos} {e : Expr} {es : List Expr} {t : TA} {oe : Obj} {cls : Value} {d : Option Addr} {pn : List (Addr × Obj)}
/-- its call in the suite -/
theorem pe_callX (F : FnX X.prog X.w X.K X.mg X.base CX k f fd ps sp) (hr : Room k X.A) (hz : L2N.Zn cls d oe) (hf : ∃ vs, oe.data = .fields vs) (hg : Gl (X.suite a ((a, oe) :: pn)) x) (hm : X.mg x = some (.ref f)) (hk : PySem.W.keepIn X.K (.ref f) = true) (hb : Binds X.K fd ps []) (hx : ∀ σ, PassesAt CX (X.suite a ((a, oe) :: pn)) σ (E σ))
    (ha : PA (X.suite a ((a, oe) :: pn)) (e :: es) t) (hdb : (x == ("__debug__" : Str)) = false := by decide) (he : starEach (e :: es) X.env = (false, eval e X.env) :: starEach es X.env := by rfl) (hpl : (backTo pos (starEach es X.env)).any (·.1) = false := by rfl) :
    PE (X.suite a ((a, oe) :: pn)) (.Call (.Name x q) (e :: es) [] pos) (tCallS (sp a cls d) E t) := by
  refine ⟨fun pins s σ H Q I h => ?_⟩
  refine wpAny_Call_Name_kw (ld_glob I hg hm ?_ hdb)
  refine PySem.W.callWith_K (h₀ := X.base) I.ok.mod.kin hk (thn (ha.run pos pins s σ H _ I h) fun us s1 ⟨vs, H1, I1, r, q⟩ => ⟨I1.kIn, ?_⟩) he hpl
  have hl : us.length = ps.length := by rw [← r.length]; exact F.len _ _ _ _ _ _ _ q
  have b := hb s1 us I1.kIn (by rw [List.append_nil]; exact hl)
  rw [List.append_nil] at b
  have P1 := I1.pin (a, oe) (List.mem_append.mpr (.inl List.mem_cons_self))
  have hpin : PinOk (X.suite a ((a, oe) :: pn)).stack H1 s1 (a, oe) := ⟨P1.1, P1.2.1, fun hm => (List.mem_cons.mp (I1.stkSub a hm)).elim P1.2.2.1 P1.2.2.2.1, P1.2.2.2.2⟩
  obtain ⟨vs', e1⟩ := hf
  refine wpAny_call (codeAny_mono (F.run (X.suite a ((a, oe) :: pn)).A (X.suite a ((a, oe) :: pn)).stack s1 H1 ⟨us, []⟩ us vs Q (E σ) (a, oe) cls d ⟨hr.dp, hr.un⟩ ⟨rfl, vs', e1, hz.2.2 vs' e1⟩ hz.zc hpin I1.env0 b r q) fun r s' hq => ?_)
  cases r with
  | error e => exact hx σ pins H1 s1 e s' I1 hq
  | ok fl =>
    cases fl with
    | ret u => exact I1.after hq
    | next => exact False.elim hq
    | brk => exact False.elim hq
    | cont => exact False.elim hq
/-- isinstance(e, c) in such a def -/
theorem call_isXd {X : Cx} {p : Addr × Obj} {cls : Value} {d : Option Addr} (hp : p ∈ X.pn) (hz : Zc cls d p.2) (hf : ∃ vs : Array Value, p.2.data = .fields vs ∧ vs[2]? = some .none) : CallR X (.builtin "isinstance") (rIsX X.K cls d p.1) := by
  intro pins s σ H xs us Q I r h
  obtain ⟨D, c, cv, b, rfl, rfl, C, rfl, hcv, e, q⟩ := h
  cases r with
  | cons rx rr =>
    cases rr with
    | cons rt rr =>
      cases rr
      cases rx
      have ec := hcv _ rt
      subst ec
      obtain ⟨hget, _⟩ := I.pin p (List.mem_append.mpr (.inl hp))
      obtain ⟨vs, hv, _⟩ := hf
      have J : PySem.W.InstAt s.heap p.1 p.2 D none := by
        obtain ⟨p1, oc, od, oda, osl⟩ := p
        obtain ⟨h1, h2⟩ := hz
        dsimp only at h1 h2 hv hget ⊢
        subst h1 h2 hv
        exact ⟨hget, rfl, rfl, trivial⟩
      exact PySem.W.kia_one (PySem.W.handS_kitx_exc C.hg C.hk C.hs C.hd C.ha C.hn C.ht C.hm) I.kIn J e (fun z => nomatch z) fun tk => ⟨.bl b, H, I.kept (t' := tk) fun _ _ z => z, rfl, q⟩
end
end My

/-! ### values of styles, good or bad (k16) -/
namespace My
open PySem PySem.Spec PyProof.Rows L2
/-- a thing of any kind -/
inductive Ty9 (K : PySem.W.Frag) (H : Hp) : V → String → Prop
  | non : Ty9 K H .non "NoneType"
  | bl (b : Bool) : Ty9 K H (.bl b) "bool"
  | int (i : Int) : Ty9 K H (.int i) "int"
  | str (x : Str) : Ty9 K H (.str x) "str"
  | lst {a : Addr} {xs : List V} (h : H a = some (.lst xs)) : Ty9 K H (.ref a) "list"
  | tup {a : Addr} {xs : List V} (h : H a = some (.tup xs)) : Ty9 K H (.ref a) "tuple"
  | dK {a : Addr} {xs : List (Key × V)} (h : H a = some (.dK xs)) : Ty9 K H (.ref a) "dict"
  | ins {a C dx : Addr} {fs : List (Str × V)} (h : H a = some (.ins C dx fs)) (p : Pl K C) : Ty9 K H (.ref a) "object"
section
variable {K : PySem.W.Frag} {H H' : Hp} {x v : V} {t : String}
theorem Ty9.t8 (h : Ty9 K H x t) : Ty8 K H x t := by
  cases h with
  | non => exact .of .non
  | bl b => exact .of (.bl b)
  | int i => exact .of (.int i)
  | str s => exact .of (.str s)
  | lst h => exact .of (.lst h)
  | tup h => exact .of (.tup h)
  | dK h => exact .of (.dK h)
  | ins h p => exact .ins h p
theorem Ty9.t7 (h : Ty9 K H x t) (n : t ≠ "object") : Ty7 H x t := by
  cases h with
  | non => exact .non
  | bl b => exact (.bl b)
  | int i => exact (.int i)
  | str s => exact (.str s)
  | lst h => exact (.lst h)
  | tup h => exact (.tup h)
  | dK h => exact (.dK h)
  | ins h p => exact absurd rfl n
/-- what stays: all but lists, which stay lists -/
def Keep (H H' : Hp) : Prop := (∀ (a : Addr) (o : HO), H a = some o → (∀ xs, o ≠ .lst xs) → H' a = some o) ∧ ∀ (a : Addr) (xs : List V), H a = some (.lst xs) → ∃ ys, H' a = some (.lst ys)
theorem Same.keep (s : Same H H') : Keep H H' := ⟨fun a o h _ => s a o h, fun a xs h => ⟨xs, s _ _ h⟩⟩
theorem But.keepL {D : Addr} {xs ys : List V} (b : But D H H') (h : H D = some (.lst xs)) (h' : H' D = some (.lst ys)) : Keep H H' := ⟨fun a o e n => b a o (by rintro rfl; rw [h] at e; cases e; exact n _ rfl) e, fun a zs e => by
  by_cases q : a = D
  · subst q; exact ⟨_, h'⟩
  · exact ⟨zs, b a _ q e⟩⟩
theorem Dr.keep {s : Addr} (d : Dr s H H') (hs : Src H s) : Keep H H' := by
  obtain ⟨_, e⟩ := hs
  obtain ⟨_, e'⟩ := d.s
  exact But.keepL d.b e e'
theorem Keep.tup {a : Addr} {xs : List V} (s : Keep H H') (h : H a = some (.tup xs)) : H' a = some (.tup xs) := s.1 _ _ h fun ys e => by cases e
theorem Ty9.keep (h : Ty9 K H x t) (s : Keep H H') : Ty9 K H' x t := by
  cases h with
  | non => exact .non
  | bl b => exact (.bl b)
  | int i => exact (.int i)
  | str s => exact (.str s)
  | lst h =>
    obtain ⟨ys, h'⟩ := s.2 _ _ h
    exact .lst h'
  | tup h => exact .tup (s.tup h)
  | dK h => exact .dK (s.1 _ _ h fun ys e => by cases e)
  | ins h p => exact .ins (s.1 _ _ h fun ys e => by cases e) p
/-- None, an int or a text -/
def FlN (x : V) : Prop := x = .non ∨ (∃ i, x = .int i) ∨ ∃ s, x = .str s
def nmB (l : List Nat) : Bool := (decide (1 ≤ l.length) && decide (l.length ≤ 8)) && l.all fun c => decide (c ∈ lettersL)
theorem nmB_ok {l : List Nat} (h : NameOk l) : nmB l = true := by
  unfold nmB
  rw [decide_eq_true h.1, decide_eq_true h.2.1, Bool.and_self, Bool.true_and, List.all_eq_true]
  exact fun c m => decide_eq_true (h.2.2 c m)
/-- what is no name -/
def NoNm (K : PySem.W.Frag) (H : Hp) (v : V) : Prop := (∃ t, Ty9 K H v t ∧ t ≠ "str") ∨ ∃ l : List Nat, v = .str (sO l) ∧ nmB l = false ∧ l.length ≤ 1000
def NmAt (K : PySem.W.Frag) (H : Hp) (v : V) (b : Bool) : Prop := (∃ t, Ty9 K H v t ∧ t ≠ "str" ∧ b = false) ∨ ∃ l : List Nat, v = .str (sO l) ∧ nmB l = b ∧ l.length ≤ 1000
theorem NmAt.keep {b : Bool} (h : NmAt K H v b) (s : Keep H H') : NmAt K H' v b := h.imp (fun ⟨t, h, e⟩ => ⟨t, h.keep s, e⟩) id
def sidesL : List Str := [Str.ofString "wide", Str.ofString "tall"]
def standsL : List Str := [Str.ofString "start", Str.ofString "end", Str.ofString "middle", Str.ofString "stretch", Str.ofString "base"]
/-- what is no size -/
inductive NoSz (K : PySem.W.Frag) (H : Hp) : V → Prop
  | jk {v : V} {t : String} (h : Ty9 K H v t) (n1 : t ≠ "NoneType") (n2 : t ≠ "tuple") (n : isN v = false) : NoSz K H v
  | tupN {a : Addr} {xs : List V} (h : H a = some (.tup xs)) (n2 : xs.length ≠ 2) (n4 : xs.length ≠ 4) : NoSz K H (.ref a)
  | two {a : Addr} {x y : V} (h : H a = some (.tup [x, y])) (f : FlN x) (n : x ≠ sX "part") : NoSz K H (.ref a)
  | part {a : Addr} {y : V} {t : String} (h : H a = some (.tup [sX "part", y])) (hy : Ty9 K H y t) (n : isN y = false) : NoSz K H (.ref a)
  | four {a : Addr} {x y z u : V} (h : H a = some (.tup [x, y, z, u])) (f : FlN x) (n : x ≠ sX "as") : NoSz K H (.ref a)
  | nam {a : Addr} {y z u : V} (h : H a = some (.tup [sX "as", y, z, u])) (hy : NmAt K H y false) : NoSz K H (.ref a)
  | sid {a : Addr} {y z u : V} {t : String} (h : H a = some (.tup [sX "as", y, z, u])) (hy : NmAt K H y true) (hz : Ty9 K H z t) (ht : t ≠ "object") (n : isSt sidesL z = false) : NoSz K H (.ref a)
  | num {a : Addr} {y z u : V} {t t' : String} (h : H a = some (.tup [sX "as", y, z, u])) (hy : NmAt K H y true) (hz : Ty9 K H z t') (ht : t' ≠ "object") (n : isSt sidesL z = true) (hu : Ty9 K H u t) (nu : isI u = false) : NoSz K H (.ref a)
theorem NoSz.keep (h : NoSz K H v) (s : Keep H H') : NoSz K H' v := by
  cases h with
  | jk h n1 n2 n => exact .jk (h.keep s) n1 n2 n
  | tupN h n2 n4 => exact .tupN (s.tup h) n2 n4
  | two h f n => exact .two (s.tup h) f n
  | part h hy n => exact .part (s.tup h) (hy.keep s) n
  | four h f n => exact .four (s.tup h) f n
  | nam h hy => exact .nam (s.tup h) (hy.keep s)
  | sid h hy hz ht n => exact .sid (s.tup h) (hy.keep s) (hz.keep s) ht n
  | num h hy hz ht n hu nu => exact .num (s.tup h) (hy.keep s) (hz.keep s) ht n (hu.keep s) nu
theorem SzAt.keep (h : SzAt H v) (s : Keep H H') : SzAt H' v := by
  cases h with
  | non => exact .non
  | cells n => exact .cells n
  | part a n h => exact .part a n (s.tup h)
  | tie a l sd m hl hs h => exact .tie a l sd m hl hs (s.tup h)
/-- what are no rims -/
inductive NoRm (K : PySem.W.Frag) (H : Hp) : V → Prop
  | jk {v : V} {t : String} (h : Ty9 K H v t) (n : t ≠ "tuple") : NoRm K H v
  | tupN {a : Addr} {xs : List V} (h : H a = some (.tup xs)) (n4 : xs.length ≠ 4) : NoRm K H (.ref a)
  | four {a : Addr} {xs : List V} (h : H a = some (.tup xs)) (n4 : xs.length = 4) (hx : ∀ x ∈ xs, ∃ t, Ty9 K H x t) (n : xs.all isN = false) : NoRm K H (.ref a)
theorem NoRm.keep (h : NoRm K H v) (s : Keep H H') : NoRm K H' v := by
  cases h with
  | jk h n => exact .jk (h.keep s) n
  | tupN h n => exact .tupN (s.tup h) n
  | four h n4 hx n => exact .four (s.tup h) n4 (fun x m => let ⟨t, h⟩ := hx x m; ⟨t, h.keep s⟩) n
theorem SqT_keep {a : Addr} {xs : List V} (s : Keep H H') (h : SqT K H a xs) : SqT K H' a xs := by
  rcases h with (h | ⟨o, h⟩) | h
  · exact .inl (.inl (s.tup h))
  · exact .inl (.inr ⟨o, s.1 _ _ h fun ys e => by cases e⟩)
  · exact .inr h
theorem RmAt.keep (h : RmAt K H v) (s : Keep H H') : RmAt K H' v := let ⟨a, n0, n1, n2, n3, e, g⟩ := h; ⟨a, n0, n1, n2, n3, e, SqT_keep s g⟩
/-- a value, good or bad -/
def SzB (K : PySem.W.Frag) (H : Hp) (v : V) (b : Bool) : Prop := (b = true ∧ SzAt H v) ∨ (b = false ∧ NoSz K H v)
def BdB (K : PySem.W.Frag) (H : Hp) (v : V) (b : Bool) : Prop := ∃ t, Ty9 K H v t ∧ b = (decide (v = .non) || isN v)
def CtB (K : PySem.W.Frag) (H : Hp) (v : V) (b : Bool) : Prop := ∃ t, Ty9 K H v t ∧ b = isN v
def RmB (K : PySem.W.Frag) (H : Hp) (v : V) (b : Bool) : Prop := (b = true ∧ RmAt K H v) ∨ (b = false ∧ NoRm K H v)
def StB (K : PySem.W.Frag) (H : Hp) (v : V) (b : Bool) : Prop := ∃ t, Ty9 K H v t ∧ t ≠ "object" ∧ b = (decide (v = .non) || isSt standsL v)
def FB (K : PySem.W.Frag) (H : Hp) : Nat → V → Bool → Prop
  | 0, v, b => SzB K H v b
  | 1, v, b => SzB K H v b
  | 2, v, b => BdB K H v b
  | 3, v, b => BdB K H v b
  | 4, v, b => BdB K H v b
  | 5, v, b => BdB K H v b
  | 6, v, b => CtB K H v b
  | 7, v, b => CtB K H v b
  | 8, v, b => RmB K H v b
  | _, v, b => StB K H v b
theorem SzB.keep {b : Bool} (h : SzB K H v b) (s : Keep H H') : SzB K H' v b := h.imp (fun ⟨e, h⟩ => ⟨e, h.keep s⟩) fun ⟨e, h⟩ => ⟨e, h.keep s⟩
theorem BdB.keep {b : Bool} (h : BdB K H v b) (s : Keep H H') : BdB K H' v b := let ⟨t, h, e⟩ := h; ⟨t, h.keep s, e⟩
theorem CtB.keep {b : Bool} (h : CtB K H v b) (s : Keep H H') : CtB K H' v b := let ⟨t, h, e⟩ := h; ⟨t, h.keep s, e⟩
theorem RmB.keep {b : Bool} (h : RmB K H v b) (s : Keep H H') : RmB K H' v b := h.imp (fun ⟨e, h⟩ => ⟨e, h.keep s⟩) fun ⟨e, h⟩ => ⟨e, h.keep s⟩
theorem StB.keep {b : Bool} (h : StB K H v b) (s : Keep H H') : StB K H' v b := let ⟨t, h, e⟩ := h; ⟨t, h.keep s, e⟩
theorem FB.keep {b : Bool} {i : Nat} (h : FB K H i v b) (s : Keep H H') : FB K H' i v b :=
  match i, h with
  | 0, h => SzB.keep h s
  | 1, h => SzB.keep h s
  | 2, h => BdB.keep h s
  | 3, h => BdB.keep h s
  | 4, h => BdB.keep h s
  | 5, h => BdB.keep h s
  | 6, h => CtB.keep h s
  | 7, h => CtB.keep h s
  | 8, h => RmB.keep h s
  | _ + 9, h => StB.keep h s
theorem isSt_mem {ts : List Str} {s : Str} (h : s ∈ ts) : isSt ts (.str s) = true := decide_eq_true h
theorem OkF.fb {i : Nat} (h : OkF K H i v) : FB K H i v true := by
  have bd : ∀ {v}, BdAt v → BdB K H v true := fun h => by
    rcases h with rfl | ⟨n, rfl⟩
    · exact ⟨_, .non, rfl⟩
    · exact ⟨_, .int _, by rw [isN_nat, Bool.or_true]⟩
  have ct : ∀ {v}, CtAt v → CtB K H v true := fun ⟨n, e⟩ => by subst e; exact ⟨_, .int _, (isN_nat n).symm⟩
  match i, h with
  | 0, h => exact .inl ⟨rfl, h⟩
  | 1, h => exact .inl ⟨rfl, h⟩
  | 2, h => exact bd h
  | 3, h => exact bd h
  | 4, h => exact bd h
  | 5, h => exact bd h
  | 6, h => exact ct h
  | 7, h => exact ct h
  | 8, h => exact .inl ⟨rfl, h⟩
  | _ + 9, h =>
    rcases h with rfl | ⟨s, m, rfl⟩
    · exact ⟨_, .non, by decide, rfl⟩
    · refine ⟨_, .str _, by decide, ?_⟩
      have : Str.ofString s ∈ standsL := List.mem_map_of_mem (f := Str.ofString) m
      rw [isSt_mem this, Bool.or_true]
/-! #### a comprehension over a text -/
section
variable {g : TG} {tt : TT} {te : TE} {vs : List Nat} {σ : L2.St} {H1 : Hp} {D : Addr} {Qd : Hp → Prop} {l : List Nat}
theorem lcSf (f : Nat → V) (hD : H1 D = none) (hz : l.length ≤ 100000)
    (hs : ∀ (i c : Nat) (H' : Hp) (Kt : V → Hp → Prop) (Kf : Hp → Prop), l[i]? = some c → Same H1 H' → (∀ H4, Same H' H4 → Kt (f c) H4) → LcT g tt te vs σ (.str ⟨#[c]⟩) H' Kt Kf)
    (hd : ∀ H, Same H1 H → H D = some (.lst (l.map f)) → Qd H) : LcG (Its (sO l)) g tt te vs σ H1 D Qd := by
  refine ⟨fun i m H => m = l.length - i ∧ i ≤ l.length ∧ Same H1 H ∧ H D = some (.lst ((l.take i).map f)), ⟨l.length, rfl, Nat.zero_le _, Same.upd0 hD, upd_same⟩, ?_⟩
  rintro i m H ⟨rfl, hi, s, e⟩
  by_cases hlt : i < l.length
  · refine .inr ⟨?_, fun H => Same H1 H ∧ H D = some (.lst ((l.take (i + 1)).map f)), fun H' p' => ⟨l.length - (i + 1), by omega, rfl, hlt, p'⟩, fun x H' y => ?_⟩
    · show i < l.toArray.size
      rw [List.size_toArray]; exact hlt
    · obtain ⟨rfl, c, hc, rfl⟩ := y
      have hc : l.toArray[i]? = some c := hc
      rw [List.getElem?_toArray] at hc
      exact hs i c H' _ _ hc s fun H4 s4 => ⟨_, s4 _ _ e, by rw [List.length_map, List.length_take, sizeLine_eq]; omega, Same.mut' (s.trans s4) But.refl.upd hD, by rw [upd_same, List.take_add_one, hc, List.map_append]; rfl⟩
  · have ei : i = l.length := by omega
    subst ei
    refine .inl ⟨?_, hd H s (by rw [e, List.take_length])⟩
    show l.toArray.size ≤ l.length
    rw [List.size_toArray]; exact Nat.le_refl _
end
end
end My
namespace My
open PySem PySem.Spec PyProof.Rows L2
/-! #### a comprehension over a tuple -/
theorem lcTy {K : PySem.W.Frag} {g : TG} {tt : TT} {te : TE} {vs : List Nat} {σ : L2.St} {H1 : Hp} {D a : Addr} {Qd : Hp → Prop} {xs : List V} (f : Nat → V) (hD : H1 D = none) (hx : SqT K H1 a xs) (hn : xs.length ≤ 100000)
    (hs : ∀ (i : Nat) (x : V) (H : Hp) (Kt : V → Hp → Prop) (Kf : Hp → Prop), xs[i]? = some x → Same H1 H → (∀ H4, Same H H4 → Kt (f i) H4) → LcT g tt te vs σ x H Kt Kf)
    (hd : ∀ H, Same H1 H → H D = some (.lst ((List.range xs.length).map f)) → Qd H) : LcG (Itt K a) g tt te vs σ H1 D Qd :=
  lcTq (ysF f (fun _ => true) (List.range xs.length)) hD hx hn (fun i x H Kt Kf hxi s qq => by
    have hi := (List.getElem?_eq_some_iff.mp hxi).1
    exact hs i x H Kt Kf hxi s (fun H4 s4 => qq.yes _ _ s4 (by unfold ysF; rw [range_get hi]; rfl)))
    (fun H s h => hd H s (by have := ysF_all f (fun _ => true) (List.range xs.length); rw [List.length_range] at this; rw [h, this, List.filter_eq_self.mpr fun _ _ => rfl]))
/-! #### the told fields of a style -/
def dfl10 (U : Addr) : List V := [.non, .non, .non, .non, .non, .non, .int 0, .int 1, .ref U, .non]
def ToldAt (H : Hp) (U : Addr) (ws ps : List V) : Prop := ps.length = 10 ∧ ∀ (i : Nat) (v : V), ps[i]? = some v → ∃ (a : Addr) (n : Str) (w d : V), v = .ref a ∧ names10[i]? = some n ∧ ws[i]? = some w ∧ (dfl10 U)[i]? = some d ∧ H a = some (.tup [.str n, w, d])
end My
namespace My
open PySem PySem.Spec PyProof.Rows L2
section
variable {K : PySem.W.Frag} {H H' : Hp} {v : V}
theorem strOk_let {l : List Nat} (h : ∀ c ∈ l, c ∈ lettersL) : PyData.strOk (sO l) = true := by
  have : ∀ c ∈ l, c < 127 := fun c m => by
    have h1 := h c m
    have h2 : ∀ c ∈ lettersL, c < 127 := by decide +kernel
    exact h2 c h1
  exact strOk_iff.mpr fun c hc => by
    have := this c (by simpa [sO] using hc)
    omega
theorem okF_dp {i : Nat} (h : OkF K H i v) : ∃ d : PyData, (∀ H', Same H H' → Dp K H' v d) ∧ d.canLay0 = true ∧ d.depth ≤ 2 := by
  have int : ∀ n : Int, ∃ d : PyData, (∀ H', Same H H' → Dp K H' (.int n) d) ∧ d.canLay0 = true ∧ d.depth ≤ 2 := fun n => ⟨.int n, fun _ _ => .int _, rfl, Nat.zero_le _⟩
  have non : ∃ d : PyData, (∀ H', Same H H' → Dp K H' .non d) ∧ d.canLay0 = true ∧ d.depth ≤ 2 := ⟨.none, fun _ _ => .non, rfl, Nat.zero_le _⟩
  have sz : ∀ {v}, SzAt H v → ∃ d : PyData, (∀ H', Same H H' → Dp K H' v d) ∧ d.canLay0 = true ∧ d.depth ≤ 2 := fun {v} h => by
    cases h with
    | non => exact non
    | cells n => exact int n
    | part a n h => exact ⟨.tuple [.str (Str.ofString "part"), .int n], fun H' s => .tup (sqT (s _ _ h)) (.cons (.str _) (.cons (.int _) .nil)), (show (PyData.strOk (Str.ofString "part") && (true && true)) = true by decide +kernel), Nat.le_of_ble_eq_true rfl⟩
    | tie a l sd m hl hs h =>
      refine ⟨.tuple [.str (Str.ofString "as"), .str (sO l), .str (Str.ofString sd), .int m], fun H' s => .tup (sqT (s _ _ h)) (.cons (.str _) (.cons (.str _) (.cons (.str _) (.cons (.int _) .nil)))), ?_, ?_⟩
      · show (PyData.strOk _ && (PyData.strOk _ && (PyData.strOk _ && (true && true)))) = true
        rw [strOk_let hl.2.2]
        rcases hs with rfl | rfl <;> decide +kernel
      · exact Nat.le_of_ble_eq_true rfl
  have bd : ∀ {v}, BdAt v → ∃ d : PyData, (∀ H', Same H H' → Dp K H' v d) ∧ d.canLay0 = true ∧ d.depth ≤ 2 := fun h => by
    rcases h with rfl | ⟨n, rfl⟩
    · exact non
    · exact int n
  have ct : ∀ {v}, CtAt v → ∃ d : PyData, (∀ H', Same H H' → Dp K H' v d) ∧ d.canLay0 = true ∧ d.depth ≤ 2 := fun ⟨n, e⟩ => by subst e; exact int n
  match i, h with
  | 0, h => exact sz h
  | 1, h => exact sz h
  | 2, h => exact bd h
  | 3, h => exact bd h
  | 4, h => exact bd h
  | 5, h => exact bd h
  | 6, h => exact ct h
  | 7, h => exact ct h
  | 8, ⟨a, n0, n1, n2, n3, e, g⟩ =>
    subst e
    exact ⟨.tuple [.int n0, .int n1, .int n2, .int n3], fun H' s => .tup (Same.seqT s g) (.cons (.int _) (.cons (.int _) (.cons (.int _) (.cons (.int _) .nil)))), rfl, Nat.le_of_ble_eq_true rfl⟩
  | _ + 9, h =>
    rcases h with rfl | ⟨s, m, rfl⟩
    · exact non
    · refine ⟨.str (Str.ofString s), fun _ _ => .str _, ?_, Nat.zero_le _⟩
      simp only [stands5, List.mem_cons, List.not_mem_nil, or_false] at m
      rcases m with rfl | rfl | rfl | rfl | rfl <;> decide +kernel
theorem ToldAt.same {U : Addr} {ws ps : List V} (h : ToldAt H U ws ps) (s : Same H H') : ToldAt H' U ws ps := ⟨h.1, fun i v e => let ⟨a, n, w, d, e1, e2, e3, e4, g⟩ := h.2 i v e; ⟨a, n, w, d, e1, e2, e3, e4, s _ _ g⟩⟩
theorem dpAll_of : ∀ {xs : List V} {ds : List PyData}, xs.length = ds.length → (∀ (i : Nat) (v : V) (d : PyData), xs[i]? = some v → ds[i]? = some d → Dp K H v d) → DpAll K H xs ds
  | [], [], _, _ => .nil
  | [], _ :: _, h, _ => by cases h
  | _ :: _, [], h, _ => by cases h
  | x :: xs, d :: ds, h, k => .cons (k 0 x d rfl rfl) (dpAll_of (by simpa using h) fun i v d e1 e2 => k (i + 1) v d e1 e2)
theorem choose10 {P : Nat → PyData → Prop} (n : Nat) (h : ∀ i, i < n → ∃ d, P i d) : ∃ ds : List PyData, ds.length = n ∧ ∀ i d, ds[i]? = some d → P i d := by
  induction n with
  | zero => exact ⟨[], rfl, fun i d e => by cases e⟩
  | succ n ih =>
    obtain ⟨ds, hl, hd⟩ := ih fun i hi => h i (by omega)
    obtain ⟨d, hp⟩ := h n (by omega)
    refine ⟨ds ++ [d], by rw [List.length_append, hl]; rfl, fun i e he => ?_⟩
    by_cases hi : i < n
    · rw [List.getElem?_append_left (by omega)] at he; exact hd i e he
    · rw [List.getElem?_append_right (by omega), hl] at he
      have : i - n = 0 := by
        cases hz : i - n with
        | zero => rfl
        | succ m => rw [hz] at he; cases he
      rw [this] at he
      cases he
      have : i = n := by omega
      subst this
      exact hp
theorem canAll : ∀ {ds : List PyData}, (∀ d ∈ ds, d.canLay0 = true) → PyData.canLayAll0 ds = true
  | [], _ => rfl
  | d :: ds, h => by
    show (d.canLay0 && PyData.canLayAll0 ds) = true
    rw [h d List.mem_cons_self, canAll fun z m => h z (List.mem_cons_of_mem _ m)]; rfl
theorem told_dp {ws : List V} {U : Addr} (ok : OkL K H ws) (hU : ∀ H, SqT K H U [.int 0, .int 0, .int 0, .int 0]) : ∃ ds : List PyData, SeqAt.shaped (.tuple ds) = true ∧ (PyData.tuple ds).canLay0 = true ∧
    ∀ H' ps p, Same H H' → H' p = some (.tup ps) → ToldAt H' U ws ps → Dp K H' (.ref p) (.tuple ds) := by
  obtain ⟨ds, hl, hd⟩ := choose10 (P := fun i d => (∀ H' ps, Same H H' → ToldAt H' U ws ps → ∀ v, ps[i]? = some v → Dp K H' v d) ∧ d.canLay0 = true ∧ d.depth ≤ 4) 10 fun i hi => by
    obtain ⟨w, hw⟩ : ∃ w, ws[i]? = some w := ⟨_, List.getElem?_eq_getElem (by rw [ok.1]; exact hi)⟩
    obtain ⟨d, h1, h2, h3⟩ := okF_dp (ok.2 i w hw)
    obtain ⟨n, hn⟩ : ∃ n, names10[i]? = some n := ⟨_, List.getElem?_eq_getElem (by exact hi)⟩
    obtain ⟨u, hu⟩ : ∃ u, (dfl10 U)[i]? = some u := ⟨_, List.getElem?_eq_getElem (by exact hi)⟩
    have sn : PyData.strOk n = true := by
      match i, hn with
      | 0, e => cases e; decide +kernel
      | 1, e => cases e; decide +kernel
      | 2, e => cases e; decide +kernel
      | 3, e => cases e; decide +kernel
      | 4, e => cases e; decide +kernel
      | 5, e => cases e; decide +kernel
      | 6, e => cases e; decide +kernel
      | 7, e => cases e; decide +kernel
      | 8, e => cases e; decide +kernel
      | 9, e => cases e; decide +kernel
      | n + 10, e => cases e
    have su : ∃ e : PyData, (∀ H', Dp K H' u e) ∧ e.canLay0 = true ∧ e.depth ≤ 2 := by
      have nn : ∃ e : PyData, (∀ H', Dp K H' V.non e) ∧ e.canLay0 = true ∧ e.depth ≤ 2 := ⟨.none, fun _ => .non, rfl, Nat.zero_le _⟩
      have ni : ∀ n : Int, ∃ e : PyData, (∀ H', Dp K H' (V.int n) e) ∧ e.canLay0 = true ∧ e.depth ≤ 2 := fun n => ⟨.int n, fun _ => .int _, rfl, Nat.zero_le _⟩
      match i, hu with
      | 0, e => cases e; exact nn
      | 1, e => cases e; exact nn
      | 2, e => cases e; exact nn
      | 3, e => cases e; exact nn
      | 4, e => cases e; exact nn
      | 5, e => cases e; exact nn
      | 6, e => cases e; exact ni 0
      | 7, e => cases e; exact ni 1
      | 8, e => cases e; exact ⟨.tuple [.int 0, .int 0, .int 0, .int 0], fun H' => .tup (hU H') (.cons (.int _) (.cons (.int _) (.cons (.int _) (.cons (.int _) .nil)))), rfl, by decide⟩
      | 9, e => cases e; exact nn
      | n + 10, e => cases e
    obtain ⟨e, e1, e2, e3⟩ := su
    refine ⟨.tuple [.str n, d, e], fun H' ps s tl v hv => ?_, ?_, ?_⟩
    · obtain ⟨a, n', w', u', rfl, q1, q2, q3, q4⟩ := tl.2 i v hv
      rw [hn] at q1
      rw [hw] at q2
      rw [hu] at q3
      cases q1
      cases q2
      cases q3
      exact .tup (sqT q4) (.cons (.str _) (.cons (h1 H' s) (.cons (e1 H') .nil)))
    · show (PyData.strOk n && (d.canLay0 && (e.canLay0 && true))) = true
      rw [sn, h2, e2]; rfl
    · show max 0 (max d.depth (max e.depth 0)) + 1 ≤ 4
      omega
  refine ⟨ds, ?_, ?_, fun H' ps p s g tl => .tup (sqT g) (dpAll_of (by rw [tl.1, hl]) fun i v d e1 e2 => (hd i d e2).1 H' ps s tl v e1)⟩
  · refine Bool.and_eq_true_iff.mpr ⟨canAll fun d m => by obtain ⟨i, e⟩ := List.getElem?_of_mem m; exact (hd i d e).2.1, decide_eq_true ?_⟩
    have : ∀ es : List PyData, (∀ d ∈ es, d.depth ≤ 4) → PyData.depthAll es ≤ 4 := fun es => by
      induction es with
      | nil => exact fun _ => Nat.zero_le _
      | cons a l ih => exact fun h => Nat.max_le.mpr ⟨h a List.mem_cons_self, ih fun z m => h z (List.mem_cons_of_mem _ m)⟩
    have := this ds fun d m => by obtain ⟨i, e⟩ := List.getElem?_of_mem m; exact (hd i d e).2.2
    show PyData.depthAll ds + 1 ≤ 64
    omega
  · exact canAll fun d m => by obtain ⟨i, e⟩ := List.getElem?_of_mem m; exact (hd i d e).2.1
end
end My
namespace My
open PySem PySem.Spec PyProof.Rows L2
/-! #### a style made of values, good or bad -/
def sp_Style_b (K : PySem.W.Frag) (C N : Addr) : Sp := fun vs H Q E => ∃ (x dx : Addr) (w h lw lh mw mh g s r st : V) (b0 b1 b2 b3 b4 b5 b6 b7 b8 b9 : Bool), vs = [.ref x, w, h, lw, lh, mw, mh, g, s, r, st] ∧ H x = some (.ins C dx []) ∧
  SzB K H w b0 ∧ SzB K H h b1 ∧ BdB K H lw b2 ∧ BdB K H lh b3 ∧ BdB K H mw b4 ∧ BdB K H mh b5 ∧ CtB K H g b6 ∧ CtB K H s b7 ∧ RmB K H r b8 ∧ StB K H st b9 ∧
  ∀ H', But x H H' → ((b0 && b1 && (b2 && b3 && b4 && b5) && (b6 && b7 && b8) && b9) = true → H' x = some (.ins C dx (styL [w, h, lw, lh, mw, mh, g, s, r, st])) → Q .non H') ∧ ((b0 && b1 && (b2 && b3 && b4 && b5) && (b6 && b7 && b8) && b9) = false → E (.ref N) none H')
def FBL (K : PySem.W.Frag) (H : Hp) (fs : List V) (bs : List Bool) : Prop := fs.length = 10 ∧ bs.length = 10 ∧ ∀ (i : Nat) (v : V) (b : Bool), fs[i]? = some v → bs[i]? = some b → FB K H i v b
section
variable {K : PySem.W.Frag} {H H' : Hp} {v : V}
theorem FBL.keep {fs : List V} {bs : List Bool} (h : FBL K H fs bs) (s : Keep H H') : FBL K H' fs bs := ⟨h.1, h.2.1, fun i v b e1 e2 => (h.2.2 i v b e1 e2).keep s⟩
theorem OkL.fbl {fs : List V} (h : OkL K H fs) : FBL K H fs (List.replicate 10 true) := ⟨h.1, rfl, fun i v b e1 e2 => by
  have hb : b = true := by
    have := List.mem_of_getElem? e2
    exact List.eq_of_mem_replicate this
  subst hb
  exact (h.2 i v e1).fb⟩
theorem ten_b {fs : List Bool} (h : fs.length = 10) : ∃ w h' lw lh mw mh g s r st, fs = [w, h', lw, lh, mw, mh, g, s, r, st] :=
  match fs, h with
  | [w, h', lw, lh, mw, mh, g, s, r, st], _ => ⟨w, h', lw, lh, mw, mh, g, s, r, st, rfl⟩
theorem mk_b {C N : Addr} {fs : List V} {bs : List Bool} {Q : VK} {E : XK} (ok : FBL K H fs bs) (k : ∀ H', Same H H' → (bs.all id = true → ∀ (x dx : Addr), H x = none → H' x = some (.ins C dx (styL fs)) → Q (.ref x) H') ∧ (bs.all id = false → E (.ref N) none H')) :
    ∀ x dx, H x = none → H dx = none → dx ≠ x → sp_Style_b K C N (.ref x :: fs) (upd (upd H dx (.own x)) x (.ins C dx [])) (fun v H3 => v = .non ∧ Q (.ref x) H3) E := by
  intro x dx fx fdx n
  obtain ⟨w, h, lw, lh, mw, mh, g, s, r, st, rfl⟩ := ten ok.1
  obtain ⟨b0, b1, b2, b3, b4, b5, b6, b7, b8, b9, rfl⟩ := ten_b ok.2.1
  have sm := make_same (o := HO.own x) (o' := HO.ins C dx []) fx fdx n
  have o := ok.keep (Same.keep sm)
  have e : (b0 && b1 && (b2 && b3 && b4 && b5) && (b6 && b7 && b8) && b9) = [b0, b1, b2, b3, b4, b5, b6, b7, b8, b9].all id := by
    simp [Bool.and_assoc]
  refine ⟨x, dx, w, h, lw, lh, mw, mh, g, s, r, st, b0, b1, b2, b3, b4, b5, b6, b7, b8, b9, rfl, upd_same, o.2.2 0 _ _ rfl rfl, o.2.2 1 _ _ rfl rfl, o.2.2 2 _ _ rfl rfl, o.2.2 3 _ _ rfl rfl, o.2.2 4 _ _ rfl rfl, o.2.2 5 _ _ rfl rfl, o.2.2 6 _ _ rfl rfl, o.2.2 7 _ _ rfl rfl, o.2.2 8 _ _ rfl rfl, o.2.2 9 _ _ rfl rfl, fun H' b => ?_⟩
  have kk := k H' (Same.mut' sm b fx)
  rw [e]
  exact ⟨fun h1 h2 => ⟨rfl, kk.1 h1 x dx fx h2⟩, kk.2⟩
theorem mk_bat {C N x dx : Addr} {fs : List V} {bs : List Bool} {R : Hp → Prop} {E : XK} (ok : FBL K H fs bs) (fx : H x = none) (fdx : H dx = none) (n : dx ≠ x) (k : ∀ H', Same H H' → (bs.all id = true → H' x = some (.ins C dx (styL fs)) → R H') ∧ (bs.all id = false → E (.ref N) none H')) :
    sp_Style_b K C N (.ref x :: fs) (upd (upd H dx (.own x)) x (.ins C dx [])) (fun v H3 => v = .non ∧ R H3) E := by
  obtain ⟨w, h, lw, lh, mw, mh, g, s, r, st, rfl⟩ := ten ok.1
  obtain ⟨b0, b1, b2, b3, b4, b5, b6, b7, b8, b9, rfl⟩ := ten_b ok.2.1
  have sm := make_same (o := HO.own x) (o' := HO.ins C dx []) fx fdx n
  have o := ok.keep (Same.keep sm)
  have e : (b0 && b1 && (b2 && b3 && b4 && b5) && (b6 && b7 && b8) && b9) = [b0, b1, b2, b3, b4, b5, b6, b7, b8, b9].all id := by
    simp [Bool.and_assoc]
  refine ⟨x, dx, w, h, lw, lh, mw, mh, g, s, r, st, b0, b1, b2, b3, b4, b5, b6, b7, b8, b9, rfl, upd_same, o.2.2 0 _ _ rfl rfl, o.2.2 1 _ _ rfl rfl, o.2.2 2 _ _ rfl rfl, o.2.2 3 _ _ rfl rfl, o.2.2 4 _ _ rfl rfl, o.2.2 5 _ _ rfl rfl, o.2.2 6 _ _ rfl rfl, o.2.2 7 _ _ rfl rfl, o.2.2 8 _ _ rfl rfl, o.2.2 9 _ _ rfl rfl, fun H' b => ?_⟩
  have kk := k H' (Same.mut' sm b fx)
  rw [e]
  exact ⟨fun h1 h2 => ⟨rfl, kk.1 h1 h2⟩, kk.2⟩
theorem set_all : ∀ {i : Nat} {b : Bool}, i < 10 → ((List.replicate 10 true).set i b).all id = b
  | 0, b, _ => by cases b <;> rfl
  | 1, b, _ => by cases b <;> rfl
  | 2, b, _ => by cases b <;> rfl
  | 3, b, _ => by cases b <;> rfl
  | 4, b, _ => by cases b <;> rfl
  | 5, b, _ => by cases b <;> rfl
  | 6, b, _ => by cases b <;> rfl
  | 7, b, _ => by cases b <;> rfl
  | 8, b, _ => by cases b <;> rfl
  | 9, b, _ => by cases b <;> rfl
  | n + 10, _, h => absurd h (by omega)
theorem FBL.set {fs : List V} {bs : List Bool} {i : Nat} {b : Bool} (h : FBL K H fs bs) (hv : FB K H i v b) : FBL K H (fs.set i v) (bs.set i b) := by
  refine ⟨by rw [List.length_set]; exact h.1, by rw [List.length_set]; exact h.2.1, fun j u c e1 e2 => ?_⟩
  rw [List.getElem?_set] at e1 e2
  split at e1
  · next q =>
    subst q
    rw [if_pos rfl] at e2
    split at e1
    · split at e2
      · cases e1; cases e2; exact hv
      · cases e2
    · cases e1
  · next q =>
    rw [if_neg q] at e2
    exact h.2.2 j u c e1 e2
theorem dflt_fbl {U : Addr} (t : ∀ H, SqT K H U [.int 0, .int 0, .int 0, .int 0]) : FBL K H (dfltL U) (List.replicate 10 true) := (dflt_ok t).fbl
theorem mk_one {C N U : Addr} {i : Nat} {b : Bool} {Q : VK} {E : XK} (hi : i < 10) (t : ∀ H, SqT K H U [.int 0, .int 0, .int 0, .int 0]) (hv : FB K H i v b) (k : ∀ H', Same H H' → (b = true → ∀ (x : Addr), H x = none → Q (.ref x) H') ∧ (b = false → E (.ref N) none H')) :
    ∀ x dx, H x = none → H dx = none → dx ≠ x → sp_Style_b K C N (.ref x :: (dfltL U).set i v) (upd (upd H dx (.own x)) x (.ins C dx [])) (fun v H3 => v = .non ∧ Q (.ref x) H3) E :=
  mk_b ((dflt_fbl t).set hv) fun H' s => by
    rw [set_all hi]
    exact ⟨fun e x dx fx _ => (k H' s).1 e x fx, (k H' s).2⟩
end
end My
namespace My
open PySem PySem.Spec PyProof.Rows L2
/-! #### what is no whole number -/
def JkC (K : PySem.W.Frag) (H : Hp) (v : V) : Prop := ∃ t, Ty9 K H v t ∧ t ≠ "NoneType" ∧ isN v = false ∧ (t = "tuple" → ∃ (a : Addr) (xs : List V), v = .ref a ∧ H a = some (.tup xs) ∧ xs.length ≤ 1)
theorem JkC.keep {K : PySem.W.Frag} {H H' : Hp} {v : V} (h : JkC K H v) (s : Keep H H') : JkC K H' v := let ⟨t, h, n, e, q⟩ := h; ⟨t, h.keep s, n, e, fun z => let ⟨a, xs, e1, e2, e3⟩ := q z; ⟨a, xs, e1, s.tup e2, e3⟩⟩
theorem JkC.ct {K : PySem.W.Frag} {H : Hp} {v : V} (h : JkC K H v) : CtB K H v false := let ⟨t, h, n, e, q⟩ := h; ⟨t, h, e.symm⟩
theorem Ty9.nn {K : PySem.W.Frag} {H : Hp} {v : V} {t : String} (h : Ty9 K H v t) (n : t ≠ "NoneType") : v ≠ .non := by rintro rfl; cases h; exact n rfl
theorem JkC.bd {K : PySem.W.Frag} {H : Hp} {v : V} (h : JkC K H v) : BdB K H v false := let ⟨t, h, n, e, q⟩ := h; ⟨t, h, by rw [e, decide_eq_false (h.nn n)]; rfl⟩
theorem JkC.sz {K : PySem.W.Frag} {H : Hp} {v : V} (h : JkC K H v) : NoSz K H v := by
  obtain ⟨t, h, n, e, q⟩ := h
  by_cases et : t = "tuple"
  · obtain ⟨a, xs, rfl, g, l⟩ := q et
    exact .tupN g (by omega) (by omega)
  · exact .jk h n et e
end My
namespace My
open PySem PySem.Spec PyProof.Rows L2
theorem cutS_drop (l : List Nat) (m : Nat) (h : m ≤ l.length) : cutS (sO l) (some (m : Int)) none = sO (l.drop m) := by
  unfold cutS
  rw [HT.sIx_none, HT.sIx_nat, sO_len, Nat.min_eq_left h]
  show sO ((l.drop m).take (l.length - m)) = _
  rw [List.take_of_length_le (by rw [List.length_drop]; exact Nat.le_refl _)]
theorem nmB_odd {a b : List Nat} {c : Nat} (h : c ∉ lettersL) : nmB (a ++ [c] ++ b) = false := by
  unfold nmB
  rw [Bool.and_eq_false_iff]
  right
  rw [List.all_append, List.all_append]
  simp [h]
theorem nmB_long {l : List Nat} (h : 8 < l.length) : nmB l = false := by
  unfold nmB
  rw [decide_eq_false (show ¬ l.length ≤ 8 by omega), Bool.and_false, Bool.false_and]
def oddsL : List Nat := (Str.ofString "ABCDEFGHIJKLMNOPQRSTUVWXYZ0123456789 -_.,:+=\n").cps.toList
theorem odds_no : ∀ c ∈ oddsL, c ∉ lettersL := by decide +kernel
theorem odds_len : oddsL.length = 45 := by decide +kernel
end My
namespace My
open PySem PySem.Spec PyProof.Rows L2
theorem st_len {z : String} (m : z ∈ stands5) : (Str.ofString z).length ≤ 7 := by
  simp only [stands5, List.mem_cons, List.not_mem_nil, or_false] at m
  rcases m with rfl | rfl | rfl | rfl | rfl <;> decide +kernel
theorem st_no {z : String} (m : z ∈ stands5) : isSt standsL (.str (Str.ofString z ++ Str.ofString " ")) = false ∧ isSt standsL (.str (Str.ofString " " ++ Str.ofString z)) = false ∧ isSt standsL (.str (Txt.upper (Str.ofString z))) = false ∧ isSt standsL (.str (cutS (Str.ofString z) none (some (-1)))) = false ∧ isSt standsL (.str (Str.ofString z ++ Str.ofString "s")) = false := by
  simp only [stands5, List.mem_cons, List.not_mem_nil, or_false] at m
  rcases m with rfl | rfl | rfl | rfl | rfl <;> decide +kernel
def NoSt (K : PySem.W.Frag) (H : Hp) (v : V) : Prop := ∃ t, Ty9 K H v t ∧ t ≠ "object" ∧ t ≠ "NoneType" ∧ isSt standsL v = false
theorem NoSt.keep {K : PySem.W.Frag} {H H' : Hp} {v : V} (h : NoSt K H v) (s : Keep H H') : NoSt K H' v := let ⟨t, h, a⟩ := h; ⟨t, h.keep s, a⟩
theorem NoSt.st {K : PySem.W.Frag} {H : Hp} {v : V} (h : NoSt K H v) : StB K H v false := by
  obtain ⟨t, h, n, n2, e⟩ := h
  exact ⟨t, h, n, by rw [e, decide_eq_false (h.nn n2)]; rfl⟩
end My
namespace My
open PySem PySem.Spec PyProof.Rows L2
theorem side_a (l : List Nat) : isSt sidesL (.str (sO l ++ Str.ofString "a")) = false := by
  refine decide_eq_false fun m => ?_
  rw [show Str.ofString "a" = sO [97] from by decide +kernel, sO_append] at m
  have key : ∀ q : List Nat, sO (l ++ [97]) = sO q → q.getLast? = some 97 := fun q e => by
    have e2 : l ++ [97] = q := by
      have := congrArg (fun z : Str => z.cps.toList) e
      simpa [sO] using this
    rw [← e2, List.getLast?_append]; rfl
  simp only [sidesL, List.mem_cons, List.not_mem_nil, or_false] at m
  rcases m with m | m
  · rw [show Str.ofString "wide" = sO [119, 105, 100, 101] from by decide +kernel] at m
    have := key _ m
    cases this
  · rw [show Str.ofString "tall" = sO [116, 97, 108, 108] from by decide +kernel] at m
    have := key _ m
    cases this
theorem wide_nm {K : PySem.W.Frag} {H : Hp} : NmAt K H (sX "wide") true := .inr ⟨[119, 105, 100, 101], by rw [show sX "wide" = V.str (Str.ofString "wide") from rfl, show Str.ofString "wide" = sO [119, 105, 100, 101] from by decide +kernel], by decide +kernel, by decide⟩
end My
namespace My
open PySem PySem.Spec PyProof.Rows L2
section
variable {K : PySem.W.Frag} {a s : Addr} {g : TG} {tt : TT} {te : TE} {vs : List Nat} {σ : L2.St} {H1 : Hp} {D : Addr} {Qd : Hp → Prop} {α : Type}
/-- over a list, items that are drawn and are new objects -/
theorem lcLo (ρ0 : α → V) {ys : List α} (R : Nat → V → Hp → Prop) (mono : ∀ i v H H', R i v H → Keep H H' → R i v H') (h0 : Src H1 s) (hD : H1 D = none) (na : a ≠ s) (hx : SqL K H1 a (ys.map ρ0)) (hn : ys.length ≤ 100000)
    (hs : ∀ (i : Nat) (y : α) (H : Hp) (Kt : V → Hp → Prop) (Kf : Hp → Prop), ys[i]? = some y → Dr s H1 H → (∀ v H4, Dr s H H4 → R i v H4 → Kt v H4) → LcT g tt te vs σ (ρ0 y) H Kt Kf)
    (hd : ∀ (us : List V) (H : Hp), Dr s H1 H → us.length = ys.length → (∀ (i : Nat) (b : V), us[i]? = some b → R i b H) → D ≠ s → H D = some (.lst us) → Qd H) : LcG (Itl K a) g tt te vs σ H1 D Qd :=
  have nD : D ≠ s := h0.ne hD
  lcL (fun i acc H' => Dr s H1 H' ∧ acc.length = i ∧ ∀ (i : Nat) (b : V), acc[i]? = some b → R i b H')
    (fun H' s' _ => ⟨Dr.of h0 s', rfl, fun i b h => by cases h⟩) hD (fun i acc H' p => p.1.seq na hx) (fun i x acc H' Kt Kf hxi p e kk => by
      obtain ⟨y, hy, rfl⟩ := of_map hxi
      have hi := (List.getElem?_eq_some_iff.mp hy).1
      obtain ⟨dp, hul, hub⟩ := p
      exact hs i y H' Kt Kf hy dp fun b H4 d4 hR => kk.yes _ _ (d4.app nD e) (Nat.lt_of_lt_of_le (show _ < 100001 by omega) (by decide)) fun H5 b5 g5 => ⟨Dr.mut (dp.trans d4) b5 hD nD.symm, by rw [List.length_append, hul]; rfl, fun j c hc => by
        have kp : Keep H4 H5 := But.keepL b5 (d4.app nD e) g5
        by_cases hj : j < acc.length
        · rw [List.getElem?_append_left hj] at hc
          exact mono _ _ _ _ (mono _ _ _ _ (hub j c hc) (Dr.keep d4 dp.s)) kp
        · have hj2 : j = i := by
            have := (List.getElem?_eq_some_iff.mp hc).1
            rw [List.length_append] at this
            simp at this; omega
          subst hj2
          rw [← hul, List.getElem?_concat_length] at hc
          cases hc; exact mono _ _ _ _ hR kp⟩)
    (fun acc H' p e => by
      obtain ⟨dp, hul, hub⟩ := p
      rw [List.length_map] at hul
      exact hd acc H' dp hul hub nD e)
end
end My
namespace My
open PySem PySem.Spec PyProof.Rows L2
theorem OkF.keep {K : PySem.W.Frag} {H H' : Hp} {i : Nat} {v : V} (h : OkF K H i v) (s : Keep H H') : OkF K H' i v :=
  match i, h with
  | 0, h => SzAt.keep h s
  | 1, h => SzAt.keep h s
  | 2, h => h
  | 3, h => h
  | 4, h => h
  | 5, h => h
  | 6, h => h
  | 7, h => h
  | 8, h => RmAt.keep h s
  | _ + 9, h => h
theorem OkL.keep {K : PySem.W.Frag} {H H' : Hp} {fs : List V} (h : OkL K H fs) (s : Keep H H') : OkL K H' fs := ⟨h.1, fun i v e => (h.2 i v e).keep s⟩
theorem Keep.trans {H H1 H2 : Hp} (a : Keep H H1) (b : Keep H1 H2) : Keep H H2 := ⟨fun c o e n => b.1 c o (a.1 c o e n) n, fun c xs e => let ⟨ys, q⟩ := a.2 c xs e; b.2 c ys q⟩
theorem all_bad {bs : List Bool} {c : Nat} (h : bs[c]? = some false) : bs.all id = false := by
  rw [List.all_eq_false]
  exact ⟨false, List.mem_of_getElem? h, by decide⟩
end My

namespace My
open PySem PySem.Spec PyProof.Rows L2
section
variable {P : Program} {w : World} {K : PySem.W.Frag} {mg : Str → Option Value} {base : Heap}
def sp_is_whole (K : PySem.W.Frag) : Sp := fun vs H Q _ => ∃ (x : V) (t : String), vs = [x] ∧ Ty8 K H x t ∧ Q (.bl (isI x)) H
theorem ok_is_whole (T : Tx K mg) : FnOk P w K mg base CX0 1 T.d_is_whole.f T.d_is_whole.fd ["thing"] (sp_is_whole K) := by
  refine T.d_is_whole.F.ok sc_is_whole (fun vs H Q E h => ?_) (fun cdv A outer s H vs Q E hr h => ?_)
  · obtain ⟨x, t, rfl, _⟩ := h
    rfl
  · obtain ⟨x, t, rfl, ht, k⟩ := h
    refine ⟨_, (pss_one (ps_ret (pe_and (pe_callB (is_int8 (K := K) rfl) (by rfl) T.b_isinstance (by decide +kernel) (pa_cons (pv 0) (pa_cons (pe_bltn (v := .ty "int") (by rfl) T.b_int (by decide +kernel) rfl) pa_nil))) (pe_one (pe_not (pe_callB (is_bool8 (K := K) rfl) (by rfl) T.b_isinstance (by decide +kernel) (pa_cons (pv 0) (pa_cons (pe_bltn (v := .ty "bool") (by rfl) T.b_bool (by decide +kernel) rfl) pa_nil)))))))), ?_⟩
    tm_at "rds"
    refine ite2 (fun e => ?_) (fun e => ?_)
    · tm_at "rds"
      rw [isI_bool e]
      exact k
    · rw [isI_no e]
      exact k
end
end My
namespace My
open PySem PySem.Spec PyProof.Rows L2
section
variable {P : Program} {w : World} {K : PySem.W.Frag} {mg : Str → Option Value} {base : Heap}
def sp_is_count (K : PySem.W.Frag) : Sp := fun vs H Q _ => ∃ (x : V) (t : String), vs = [x] ∧ Ty8 K H x t ∧ Q (.bl (isN x)) H
theorem ok_is_count (T : Tx K mg) : FnOk P w K mg base CX0 2 T.d_is_count.f T.d_is_count.fd ["thing"] (sp_is_count K) := by
  refine T.d_is_count.F.ok sc_is_count (fun vs H Q E h => ?_) (fun cdv A outer s H vs Q E hr h => ?_)
  · obtain ⟨x, t, rfl, _⟩ := h
    rfl
  · obtain ⟨x, t, rfl, ht, k⟩ := h
    refine ⟨_, (pss_one (ps_ret (pe_and (pe_call (ok_is_whole T) (hr.mono (by decide)) (by rfl) T.d_is_whole.g T.d_is_whole.F.kp T.d_is_whole.b .nil pass0 (pa_cons (pv 0) pa_nil)) (pe_one (pe_cmpR op_ge (pv 0) pe_int (nomark _)))))), ?_⟩
    tm_at "rds"
    refine ite2 (fun e => ?_) (fun e => ?_)
    · obtain ⟨i, rfl⟩ := isI_of e
      tm_at "rds"
      exact k
    · have : false = isN x := by cases x <;> simp_all [isI, isN]
      rw [this]
      exact k
end
end My
namespace My
open PySem PySem.Spec PyProof.Rows L2
section
variable {P : Program} {w : World} {K : PySem.W.Frag} {mg : Str → Option Value} {base : Heap}
def sp_is_name (K : PySem.W.Frag) : Sp := fun vs H Q _ => ∃ (v : V) (b : Bool), vs = [v] ∧ NmAt K H v b ∧ ∀ H', Same H H' → Q (.bl b) H'
theorem ok_is_name (T : Tx K mg) : FnOk P w K mg base CX0 1 T.d_is_name.f T.d_is_name.fd ["thing"] (sp_is_name K) := by
  refine T.d_is_name.F.ok sc_is_name (fun vs H Q E h => ?_) (fun cdv A outer s H vs Q E hr h => ?_)
  · obtain ⟨v, b, rfl, _⟩ := h
    rfl
  · obtain ⟨v, b, rfl, hv, k⟩ := h
    refine ⟨_, (pss_cons (ps_if (PW.pt (pw_or (pt_not (pt_val (pe_callB (is_str8 (K := K) rfl) (by rfl) T.b_isinstance (by decide +kernel) (pa_cons (pv 0) (pa_cons (pe_bltn (v := .ty "str") (by rfl) T.b_str (by decide +kernel) rfl) pa_nil))))) (pw_or1 (pt_not (pt_chain op_le op_le pe_int (pe_callB (call_lenK (K := K) rfl) (by rfl) T.b_len (by decide +kernel) (pa_cons (pv 0) pa_nil)) (pe_glob (v := .int 8) (by rfl) T.v_LONGEST T.r_LONGEST))))))
      (pss_one (ps_ret pe_bl))
      pss_nil)
      (pss_one (ps_ret (pe_callB (cr_allK (K := K) rfl rfl) (by rfl) T.b_all (by decide +kernel) (pa_cons (pe_lc (own := [("sign", 1)]) (g := gName 1) (by rfl) sc_is_name.nd (pi_str (pv 0)) (blkOk_by (own := [("sign", 1)]) (N := N_is_name) (sc := defScope s_is_name) (by decide +kernel)) (fun _ _ _ _ _ => (pg_name (i := 1) sc_is_name.nd rfl (Or.inl rfl))) (fun _ _ _ _ _ => pts_nil) (fun _ _ _ _ _ => (pe_cmpR op_in_sign (pv 1) (pe_glob (v := .str (Str.ofString "abcdefghijklmnopqrstuvwxyz")) (by rfl) T.v_LETTERS T.r_LETTERS) (by rfl)))) pa_nil))))), ?_⟩
    rcases hv with ⟨t, ht, nt, rfl⟩ | ⟨l, rfl, rfl, hl⟩
    · have h8 := ht.t8
      tm_at "rds"
      have e : decide (t = "str") = false := decide_eq_false nt
      refine ite2 (fun e2 => ?_) (fun e2 => ?_)
      · tm_at "rzs"
        exact k _ (Same.refl _)
      · exact absurd e2 (by show ¬ ¬ ((!(decide (t = "str"))) = true); rw [e]; decide)
    · have h8 : Ty8 K H (.str (sO l)) "str" := .of (.str _)
      tm_at "rzs"
      refine ⟨_, l.length, rfl, ⟨by show l.toArray.size ≤ sizeLine; rw [List.size_toArray, sizeLine_eq]; omega, by show l.length = l.toArray.size; rw [List.size_toArray]⟩, ?_⟩
      tm_at "rds"
      by_cases e1 : 1 ≤ l.length
      · refine iteT' (decide_eq_true (by omega)) ?_
        tm_at "rds"
        by_cases e2 : l.length ≤ 8
        · refine iteF' (by rw [decide_eq_true (by omega)]; rfl) ?_
          tm_at "rds"
          refine fun D hD => lcSf (fun c => .bl (decide (c ∈ lettersL))) hD (by omega) (fun i c H1 Kt Kf hc s1 kt => ?_) (fun H1 s1 g1 => ?_)
          · tm_at "rds"
            exact kt _ (Same.refl _)
          have g1 : H1 D = some (.lst ((l.map fun c => decide (c ∈ lettersL)).map V.bl)) := by rw [g1, List.map_map]; rfl
          tm_at "rzs"
          refine ⟨D, _, rfl, sqL g1, ?_⟩
          have : (l.map fun c => decide (c ∈ lettersL)).all id = nmB l := by
            unfold nmB
            rw [decide_eq_true e1, decide_eq_true e2, List.all_map]; rfl
          rw [this]
          exact k H1 s1
        · refine iteT' (by rw [decide_eq_false (by omega)]; rfl) ?_
          tm_at "rzs"
          have : nmB l = false := by unfold nmB; rw [decide_eq_false e2, Bool.and_false, Bool.false_and]
          rw [this] at k
          exact k _ (Same.refl _)
      · refine iteF' (decide_eq_false (by omega)) ?_
        tm_at "rzs"
        have : nmB l = false := by unfold nmB; rw [decide_eq_false e1, Bool.false_and, Bool.false_and]
        rw [this] at k
        exact k _ (Same.refl _)
end
end My
namespace My
open PySem PySem.Spec PyProof.Rows L2
section
variable {P : Program} {w : World} {K : PySem.W.Frag} {mg : Str → Option Value} {base : Heap}
def sp_is_part (K : PySem.W.Frag) : Sp := fun vs H Q _ => ∃ (v : V), vs = [v] ∧ ((∃ t, Ty8 K H v t ∧ t ≠ "tuple" ∧ Q (.bl false) H) ∨ ∃ (a : Addr) (xs : List V), v = .ref a ∧ H a = some (.tup xs) ∧ Q (.bl (decide (xs.length = 2))) H)
theorem ok_is_part (T : Tx K mg) : FnOk P w K mg base CX0 1 T.d_is_part.f T.d_is_part.fd ["size"] (sp_is_part K) := by
  refine T.d_is_part.F.ok sc_is_part (fun vs H Q E h => ?_) (fun cdv A outer s H vs Q E hr h => ?_)
  · obtain ⟨v, rfl, _⟩ := h
    rfl
  · obtain ⟨v, rfl, k⟩ := h
    refine ⟨_, (pss_one (ps_ret (pe_and (pe_callB (is_tuple8 (K := K) rfl) (by rfl) T.b_isinstance (by decide +kernel) (pa_cons (pv 0) (pa_cons (pe_bltn (v := .ty "tuple") (by rfl) T.b_tuple (by decide +kernel) rfl) pa_nil))) (pe_one (pe_cmpR op_eq (pe_callB (call_lenK (K := K) rfl) (by rfl) T.b_len (by decide +kernel) (pa_cons (pv 0) pa_nil)) pe_int (nomark _)))))), ?_⟩
    rcases k with ⟨t, ht, hn, k⟩ | ⟨a, xs, rfl, ha, k⟩
    · tm_at "rzs"
      have e : decide (t = "tuple") = false := decide_eq_false hn
      show if decide (t = "tuple") = true then _ else _
      rw [e]
      tm_at "rzs"
      exact k
    · have h8 : Ty8 K H (.ref a) "tuple" := .of (.tup ha)
      tm_at "rzs"
      rw [show decide (V.int (xs.length : Int) = V.int 2) = decide (xs.length = 2) from by rw [int_inj_dec]; exact decide_eq_decide.mpr (by omega)]
      exact k
end
end My
namespace My
open PySem PySem.Spec PyProof.Rows L2
section
variable {P : Program} {w : World} {K : PySem.W.Frag} {mg : Str → Option Value} {base : Heap}
def sp_is_tie (K : PySem.W.Frag) : Sp := fun vs H Q _ => ∃ (v : V), vs = [v] ∧ ((∃ t, Ty8 K H v t ∧ t ≠ "tuple" ∧ Q (.bl false) H) ∨ ∃ (a : Addr) (xs : List V), v = .ref a ∧ H a = some (.tup xs) ∧ Q (.bl (decide (xs.length = 4))) H)
theorem ok_is_tie (T : Tx K mg) : FnOk P w K mg base CX0 1 T.d_is_tie.f T.d_is_tie.fd ["size"] (sp_is_tie K) := by
  refine T.d_is_tie.F.ok sc_is_tie (fun vs H Q E h => ?_) (fun cdv A outer s H vs Q E hr h => ?_)
  · obtain ⟨v, rfl, _⟩ := h
    rfl
  · obtain ⟨v, rfl, k⟩ := h
    refine ⟨_, (pss_one (ps_ret (pe_and (pe_callB (is_tuple8 (K := K) rfl) (by rfl) T.b_isinstance (by decide +kernel) (pa_cons (pv 0) (pa_cons (pe_bltn (v := .ty "tuple") (by rfl) T.b_tuple (by decide +kernel) rfl) pa_nil))) (pe_one (pe_cmpR op_eq (pe_callB (call_lenK (K := K) rfl) (by rfl) T.b_len (by decide +kernel) (pa_cons (pv 0) pa_nil)) pe_int (nomark _)))))), ?_⟩
    rcases k with ⟨t, ht, hn, k⟩ | ⟨a, xs, rfl, ha, k⟩
    · tm_at "rzs"
      have e : decide (t = "tuple") = false := decide_eq_false hn
      show if decide (t = "tuple") = true then _ else _
      rw [e]
      tm_at "rzs"
      exact k
    · have h8 : Ty8 K H (.ref a) "tuple" := .of (.tup ha)
      tm_at "rzs"
      rw [show decide (V.int (xs.length : Int) = V.int 4) = decide (xs.length = 4) from by rw [int_inj_dec]; exact decide_eq_decide.mpr (by omega)]
      exact k
end
end My
namespace My
open PySem PySem.Spec PyProof.Rows L2
section
variable {P : Program} {w : World} {K : PySem.W.Frag} {mg : Str → Option Value} {base : Heap}
def sp_is_size (K : PySem.W.Frag) : Sp := fun vs H Q _ => ∃ (v : V) (b : Bool), vs = [v] ∧ SzB K H v b ∧ ∀ H', Same H H' → Q (.bl b) H'
theorem ok_is_size (T : Tx K mg) : FnOk P w K mg base CX0 3 T.d_is_size.f T.d_is_size.fd ["thing"] (sp_is_size K) := by
  refine T.d_is_size.F.ok sc_is_size (fun vs H Q E h => ?_) (fun cdv A outer s H vs Q E hr h => ?_)
  · obtain ⟨v, b, rfl, _⟩ := h
    rfl
  · obtain ⟨v, b, rfl, hv, k⟩ := h
    refine ⟨_, (pss_cons (ps_if (PW.pt (pw_or (pt_cmpR op_isN (pv 0) pe_non (nomark _)) (pw_or1 (pt_val (pe_call (ok_is_count T) (hr.mono (by decide)) (by rfl) T.d_is_count.g T.d_is_count.F.kp T.d_is_count.b .nil pass0 (pa_cons (pv 0) pa_nil))))))
      (pss_one (ps_ret pe_bl))
      pss_nil)
      (pss_cons (ps_if (pt_val (pe_call (ok_is_part T) (hr.mono (by decide)) (by rfl) T.d_is_part.g T.d_is_part.F.kp T.d_is_part.b .nil pass0 (pa_cons (pv 0) pa_nil)))
      (pss_one (ps_ret (pe_and (pe_cmpR op_eq (pe_ix (ix_tupK (K := K) rfl) (pv 0) pe_int (fun _ _ => rfl)) pe_str (nomark _)) (pe_one (pe_call (ok_is_count T) (hr.mono (by decide)) (by rfl) T.d_is_count.g T.d_is_count.F.kp T.d_is_count.b .nil pass0 (pa_cons (pe_ix (ix_tupK (K := K) rfl) (pv 0) pe_int (fun _ _ => rfl)) pa_nil))))))
      pss_nil)
      (pss_cons (ps_if (PW.pt (pw_or (pt_not (pt_val (pe_call (ok_is_tie T) (hr.mono (by decide)) (by rfl) T.d_is_tie.g T.d_is_tie.F.kp T.d_is_tie.b .nil pass0 (pa_cons (pv 0) pa_nil)))) (pw_or (pt_cmpR op_ne (pe_ix (ix_tupK (K := K) rfl) (pv 0) pe_int (fun _ _ => rfl)) pe_str (nomark _)) (pw_or1 (pt_not (pt_val (pe_call (ok_is_name T) (hr.mono (by decide)) (by rfl) T.d_is_name.g T.d_is_name.F.kp T.d_is_name.b .nil pass0 (pa_cons (pe_ix (ix_tupK (K := K) rfl) (pv 0) pe_int (fun _ _ => rfl)) pa_nil))))))))
      (pss_one (ps_ret pe_bl))
      pss_nil)
      (pss_one (ps_ret (pe_and (pe_cmpR (op_in7 (K := K) hr.units rfl) (pe_ix (ix_tupK (K := K) rfl) (pv 0) pe_int (fun _ _ => rfl)) (pe_glob (v := .ref T.U_SIDES) (by rfl) T.v_SIDES rfl) (by rfl)) (pe_one (pe_call (ok_is_whole T) (hr.mono (by decide)) (by rfl) T.d_is_whole.g T.d_is_whole.F.kp T.d_is_whole.b .nil pass0 (pa_cons (pe_ix (ix_tupK (K := K) rfl) (pv 0) pe_int (fun _ _ => rfl)) pa_nil))))))))), ?_⟩
    rcases hv with ⟨rfl, hv⟩ | ⟨rfl, hv⟩
    · cases hv with
      | non =>
        tm_at "rzs"
        exact k _ (Same.refl _)
      | cells n =>
        have h8 : Ty8 K H (.int (n : Int)) "int" := .of (.int _)
        tm_at "rzs"
        exact k _ (Same.refl _)
      | part a n h =>
        have h8 : Ty8 K H (.ref a) "tuple" := .of (.tup h)
        have h9 : Ty8 K H (.int (n : Int)) "int" := .of (.int _)
        tm_at "rzs"
        refine .inr ⟨a, _, rfl, h, ?_⟩
        tm_at "rzs"
        rw [isN_nat]
        exact k _ (Same.refl _)
      | tie a l sd m hl hs h =>
        have h8 : Ty8 K H (.ref a) "tuple" := .of (.tup h)
        tm_at "rzs"
        refine .inr ⟨a, _, rfl, h, ?_⟩
        tm_at "rzs"
        refine .inr ⟨a, _, rfl, h, ?_⟩
        tm_at "rzs"
        refine ⟨_, true, rfl, .inr ⟨l, rfl, nmB_ok hl, by have := hl.2.1; omega⟩, fun H1 s1 => ?_⟩
        have h1 := s1 _ _ h
        have h9 : Ty8 K H1 (.int m) "int" := .of (.int _)
        have hin : isSt sidesL (sX sd) = true := by
          rcases hs with rfl | rfl <;> decide +kernel
        tm_at "rzs"
        refine ⟨_, sidesL, _, rfl, T.t_SIDES _, .str _, ?_⟩
        rw [if_neg (by decide), hin]
        tm_at "rzs"
        exact k _ s1
    · cases hv with
      | @jk _ t h n1 n2 n =>
        have h8 := h.t8
        have nn : v ≠ .non := by rintro rfl; cases h; exact n1 rfl
        tm_at "rzs"
        refine iteF' (by cases v <;> first | rfl | exact absurd rfl nn) ?_
        tm_at "rzs"
        rw [n]
        refine iteF' rfl ?_
        tm_at "rzs"
        refine .inl ⟨t, h8, n2, ?_⟩
        tm_at "rzs"
        refine .inl ⟨t, h8, n2, ?_⟩
        tm_at "rzs"
        exact k _ (Same.refl _)
      | @tupN a xs h n2 n4 =>
        have h8 : Ty8 K H (.ref a) "tuple" := .of (.tup h)
        tm_at "rzs"
        refine .inr ⟨a, _, rfl, h, ?_⟩
        refine ⟨_, rfl, ?_⟩
        refine iteF' (decide_eq_false n2) ?_
        tm_at "rzs"
        refine .inr ⟨a, _, rfl, h, ?_⟩
        rw [decide_eq_false n4]
        tm_at "rzs"
        exact k _ (Same.refl _)
      | @two a x y h f n =>
        have h8 : Ty8 K H (.ref a) "tuple" := .of (.tup h)
        tm_at "rzs"
        refine .inr ⟨a, _, rfl, h, ?_⟩
        tm_at "rzs"
        rcases f with rfl | ⟨i, rfl⟩ | ⟨z, rfl⟩
        · tm_at "rzs"
          exact k _ (Same.refl _)
        · tm_at "rzs"
          exact k _ (Same.refl _)
        · tm_at "rzs"
          refine iteF' (decide_eq_false n) ?_
          tm_at "rzs"
          exact k _ (Same.refl _)
      | @part a y t h hy n =>
        have h8 : Ty8 K H (.ref a) "tuple" := .of (.tup h)
        have h9 := hy.t8
        tm_at "rzs"
        refine .inr ⟨a, _, rfl, h, ?_⟩
        tm_at "rzs"
        rw [n]
        exact k _ (Same.refl _)
      | @four a x y z u h f n =>
        have h8 : Ty8 K H (.ref a) "tuple" := .of (.tup h)
        tm_at "rzs"
        refine .inr ⟨a, _, rfl, h, ?_⟩
        tm_at "rzs"
        refine .inr ⟨a, _, rfl, h, ?_⟩
        tm_at "rzs"
        rcases f with rfl | ⟨i, rfl⟩ | ⟨z, rfl⟩
        · tm_at "rzs"
          exact k _ (Same.refl _)
        · tm_at "rzs"
          exact k _ (Same.refl _)
        · tm_at "rzs"
          refine iteT' (by rw [decide_eq_false n]; rfl) ?_
          tm_at "rzs"
          exact k _ (Same.refl _)
      | @nam a y z u h hy =>
        have h8 : Ty8 K H (.ref a) "tuple" := .of (.tup h)
        tm_at "rzs"
        refine .inr ⟨a, _, rfl, h, ?_⟩
        tm_at "rzs"
        refine .inr ⟨a, _, rfl, h, ?_⟩
        tm_at "rzs"
        intro H1 s1
        tm_at "rzs"
        exact k _ s1
      | @sid a y z u t h hy hz ht n =>
        have h8 : Ty8 K H (.ref a) "tuple" := .of (.tup h)
        tm_at "rzs"
        refine .inr ⟨a, _, rfl, h, ?_⟩
        tm_at "rzs"
        refine .inr ⟨a, _, rfl, h, ?_⟩
        tm_at "rzs"
        intro H1 s1
        have h1 := s1 _ _ h
        tm_at "rzs"
        refine ⟨_, sidesL, _, rfl, T.t_SIDES _, (hz.keep (Same.keep s1)).t7 ht, ?_⟩
        rw [if_neg (by decide), n]
        tm_at "rzs"
        exact k _ s1
      | @num a y z u t t' h hy hz ht n hu nu =>
        have h8 : Ty8 K H (.ref a) "tuple" := .of (.tup h)
        tm_at "rzs"
        refine .inr ⟨a, _, rfl, h, ?_⟩
        tm_at "rzs"
        refine .inr ⟨a, _, rfl, h, ?_⟩
        tm_at "rzs"
        intro H1 s1
        have h1 := s1 _ _ h
        have h9 := (hu.keep (Same.keep s1)).t8
        tm_at "rzs"
        refine ⟨_, sidesL, _, rfl, T.t_SIDES _, (hz.keep (Same.keep s1)).t7 ht, ?_⟩
        rw [if_neg (by decide), n]
        tm_at "rzs"
        rw [nu]
        exact k _ s1
end
end My
namespace My
open PySem PySem.Spec PyProof.Rows L2
section
variable {P : Program} {w : World} {K : PySem.W.Frag} {mg : Str → Option Value} {base : Heap}
def sp_is_bound (K : PySem.W.Frag) : Sp := fun vs H Q _ => ∃ (v : V) (t : String), vs = [v] ∧ Ty8 K H v t ∧ Q (.bl (decide (v = .non) || isN v)) H
theorem ok_is_bound (T : Tx K mg) : FnOk P w K mg base CX0 3 T.d_is_bound.f T.d_is_bound.fd ["thing"] (sp_is_bound K) := by
  refine T.d_is_bound.F.ok sc_is_bound (fun vs H Q E h => ?_) (fun cdv A outer s H vs Q E hr h => ?_)
  · obtain ⟨v, t, rfl, _⟩ := h
    rfl
  · obtain ⟨v, t, rfl, hv, k⟩ := h
    refine ⟨_, (pss_one (ps_ret (pe_or (pe_cmpR op_isN (pv 0) pe_non (nomark _)) (pe_one (pe_call (ok_is_count T) (hr.mono (by decide)) (by rfl) T.d_is_count.g T.d_is_count.F.kp T.d_is_count.b .nil pass0 (pa_cons (pv 0) pa_nil)))))), ?_⟩
    tm_at "rzs"
    by_cases e : v = .non
    · subst e
      refine iteT' rfl ?_
      exact k
    · have e' : decide (v = .non) = false := decide_eq_false e
      rw [e', Bool.false_or] at k
      refine iteF' (by cases v <;> first | rfl | exact absurd rfl e) ?_
      tm_at "rzs"
      exact k
end
end My
namespace My
open PySem PySem.Spec PyProof.Rows L2
section
variable {P : Program} {w : World} {K : PySem.W.Frag} {mg : Str → Option Value} {base : Heap}
def sp_is_rims (K : PySem.W.Frag) : Sp := fun vs H Q _ => ∃ (v : V) (b : Bool), vs = [v] ∧ RmB K H v b ∧ ∀ H', Same H H' → Q (.bl b) H'
theorem ok_is_rims (T : Tx K mg) : FnOk P w K mg base CX0 3 T.d_is_rims.f T.d_is_rims.fd ["thing"] (sp_is_rims K) := by
  refine T.d_is_rims.F.ok sc_is_rims (fun vs H Q E h => ?_) (fun cdv A outer s H vs Q E hr h => ?_)
  · obtain ⟨v, b, rfl, _⟩ := h
    rfl
  · obtain ⟨v, b, rfl, hv, k⟩ := h
    refine ⟨_, (pss_one (ps_ret (pe_and (pe_callB (is_tuple9 (K := K) rfl) (by rfl) T.b_isinstance (by decide +kernel) (pa_cons (pv 0) (pa_cons (pe_bltn (v := .ty "tuple") (by rfl) T.b_tuple (by decide +kernel) rfl) pa_nil))) (pe_and (pe_cmpR op_eq (pe_callB (call_lenK (K := K) rfl) (by rfl) T.b_len (by decide +kernel) (pa_cons (pv 0) pa_nil)) pe_int (nomark _)) (pe_one (pe_callB (cr_allK (K := K) rfl rfl) (by rfl) T.b_all (by decide +kernel) (pa_cons (pe_lc (own := [("rim", 1)]) (g := gName 1) (by rfl) sc_is_rims.nd (pi_tupK (K := K) rfl (pv 0)) (blkOk_by (own := [("rim", 1)]) (N := N_is_rims) (sc := defScope s_is_rims) (by decide +kernel)) (fun _ _ _ _ _ => (pg_name (i := 1) sc_is_rims.nd rfl (Or.inl rfl))) (fun _ _ _ _ _ => pts_nil) (fun _ _ _ _ _ => (pe_call (ok_is_count T) (hr.mono (by decide)) (by rfl) T.d_is_count.g T.d_is_count.F.kp T.d_is_count.b .nil pass0 (pa_cons (pv 1) pa_nil)))) pa_nil))))))), ?_⟩
    obtain ⟨t, ht, nt, rfl⟩ | ⟨a, ys, rfl, ha, h4, hn⟩ : (∃ t, Ty9 K H v t ∧ t ≠ "tuple" ∧ b = false) ∨ ∃ (a : Addr) (ys : List V), v = .ref a ∧ SqT K H a ys ∧ (ys.length = 4 → (∀ y ∈ ys, ∃ t, Ty9 K H y t) ∧ ys.all isN = b) ∧ (ys.length ≠ 4 → b = false) := by
      rcases hv with ⟨rfl, a, n0, n1, n2, n3, rfl, ha⟩ | ⟨rfl, hv⟩
      · refine .inr ⟨a, _, rfl, ha, fun _ => ⟨fun y m => ?_, ?_⟩, fun e => absurd rfl e⟩
        · simp only [List.mem_cons, List.not_mem_nil, or_false] at m
          rcases m with rfl | rfl | rfl | rfl <;> exact ⟨_, .int _⟩
        · simp only [List.all_cons, List.all_nil, isN_nat, Bool.and_self]
      · cases hv with
        | jk h n => exact .inl ⟨_, h, n, rfl⟩
        | tupN h n => exact .inr ⟨_, _, rfl, sqT h, fun e => absurd e n, fun _ => rfl⟩
        | four h n4 hx n => exact .inr ⟨_, _, rfl, sqT h, fun _ => ⟨hx, n⟩, fun _ => rfl⟩
    · tm_at "rds"
      refine .inl ⟨t, ht.t8, ?_⟩
      rw [decide_eq_false nt]
      tm_at "rzs"
      exact k _ (Same.refl _)
    · tm_at "rds"
      refine .inr ⟨a, ys, rfl, ha, ?_⟩
      tm_at "rzs"
      by_cases e : ys.length = 4
      · obtain ⟨hy, rfl⟩ := h4 e
        refine iteT' (by rw [int_inj_dec]; exact decide_eq_true (by omega)) ?_
        tm_at "rzs"
        refine ⟨⟨_, ha⟩, fun D hD => lcTy (K := K) (xs := ys) (fun i => V.bl (isN (ys.getD i .non))) hD ha (by omega) (fun i y H1 Kt Kf hi s1 kt => ?_) (fun H1 s1 g1 => ?_)⟩
        · obtain ⟨t, h9⟩ := hy y (List.mem_of_getElem? hi)
          have h8 := (h9.keep (Same.keep s1)).t8
          tm_at "rzs"
          have e2 : ys.getD i .non = y := by rw [List.getD_eq_getElem?_getD, hi]; rfl
          rw [e2] at kt
          exact kt _ (Same.refl _)
        have g1 : H1 D = some (.lst ((ys.map isN).map V.bl)) := by
          rw [g1]
          congr 2
          refine List.ext_getElem (by simp) fun i h1 h2 => ?_
          have hi : i < ys.length := by simpa using h2
          simp [List.getD_eq_getElem?_getD, List.getElem?_eq_getElem hi]
        tm_at "rzs"
        refine ⟨D, _, rfl, sqL g1, ?_⟩
        have : (ys.map isN).all id = ys.all isN := by rw [List.all_map]; rfl
        rw [this]
        exact k H1 s1
      · have hb := hn e
        subst hb
        refine iteF' (by rw [int_inj_dec]; exact decide_eq_false (by omega)) ?_
        exact k _ (Same.refl _)
end
end My
namespace My
open PySem PySem.Spec PyProof.Rows L2
section
variable {P : Program} {w : World} {K : PySem.W.Frag} {mg : Str → Option Value} {base : Heap}
theorem kb_Style_init_1_ (T : Tx K mg) : ∃ mv : List Value, KBn K T.d_Style_init.fd ["self", "wide", "high", "least_wide", "least_high", "most_wide", "most_high", "grow", "shrink", "rims", "stand"] 1 [] (fun us ws => pick1 0 us ++ pick1 0 mv ++ pick1 1 mv ++ pick1 2 mv ++ pick1 3 mv ++ pick1 4 mv ++ pick1 5 mv ++ pick1 6 mv ++ pick1 7 mv ++ pick1 8 mv ++ pick1 9 mv) (fun vs zs => pick1 0 vs ++ pick1 0 (([("wide", .non), ("high", .non), ("least_wide", .non), ("least_high", .non), ("most_wide", .non), ("most_high", .non), ("grow", .int 0), ("shrink", .int 1), ("rims", .ref T.U_NO_RIMS), ("stand", .non)] : List (Str × V)).map (·.2)) ++ pick1 1 (([("wide", .non), ("high", .non), ("least_wide", .non), ("least_high", .non), ("most_wide", .non), ("most_high", .non), ("grow", .int 0), ("shrink", .int 1), ("rims", .ref T.U_NO_RIMS), ("stand", .non)] : List (Str × V)).map (·.2)) ++ pick1 2 (([("wide", .non), ("high", .non), ("least_wide", .non), ("least_high", .non), ("most_wide", .non), ("most_high", .non), ("grow", .int 0), ("shrink", .int 1), ("rims", .ref T.U_NO_RIMS), ("stand", .non)] : List (Str × V)).map (·.2)) ++ pick1 3 (([("wide", .non), ("high", .non), ("least_wide", .non), ("least_high", .non), ("most_wide", .non), ("most_high", .non), ("grow", .int 0), ("shrink", .int 1), ("rims", .ref T.U_NO_RIMS), ("stand", .non)] : List (Str × V)).map (·.2)) ++ pick1 4 (([("wide", .non), ("high", .non), ("least_wide", .non), ("least_high", .non), ("most_wide", .non), ("most_high", .non), ("grow", .int 0), ("shrink", .int 1), ("rims", .ref T.U_NO_RIMS), ("stand", .non)] : List (Str × V)).map (·.2)) ++ pick1 5 (([("wide", .non), ("high", .non), ("least_wide", .non), ("least_high", .non), ("most_wide", .non), ("most_high", .non), ("grow", .int 0), ("shrink", .int 1), ("rims", .ref T.U_NO_RIMS), ("stand", .non)] : List (Str × V)).map (·.2)) ++ pick1 6 (([("wide", .non), ("high", .non), ("least_wide", .non), ("least_high", .non), ("most_wide", .non), ("most_high", .non), ("grow", .int 0), ("shrink", .int 1), ("rims", .ref T.U_NO_RIMS), ("stand", .non)] : List (Str × V)).map (·.2)) ++ pick1 7 (([("wide", .non), ("high", .non), ("least_wide", .non), ("least_high", .non), ("most_wide", .non), ("most_high", .non), ("grow", .int 0), ("shrink", .int 1), ("rims", .ref T.U_NO_RIMS), ("stand", .non)] : List (Str × V)).map (·.2)) ++ pick1 8 (([("wide", .non), ("high", .non), ("least_wide", .non), ("least_high", .non), ("most_wide", .non), ("most_high", .non), ("grow", .int 0), ("shrink", .int 1), ("rims", .ref T.U_NO_RIMS), ("stand", .non)] : List (Str × V)).map (·.2)) ++ pick1 9 (([("wide", .non), ("high", .non), ("least_wide", .non), ("least_high", .non), ("most_wide", .non), ("most_high", .non), ("grow", .int 0), ("shrink", .int 1), ("rims", .ref T.U_NO_RIMS), ("stand", .non)] : List (Str × V)).map (·.2))) := by
  exact T.d_Style_init.FD.kbinds0 1 [] [("wide", .non), ("high", .non), ("least_wide", .non), ("least_high", .non), ("most_wide", .non), ("most_high", .non), ("grow", .int 0), ("shrink", .int 1), ("rims", .ref T.U_NO_RIMS), ("stand", .non)] (fun us mv ws => pick1 0 us ++ pick1 0 mv ++ pick1 1 mv ++ pick1 2 mv ++ pick1 3 mv ++ pick1 4 mv ++ pick1 5 mv ++ pick1 6 mv ++ pick1 7 mv ++ pick1 8 mv ++ pick1 9 mv) (by intro z; cases z) (fun q hq => List.Sublist.subset (show List.Sublist _ _ from (.cons₂ _ (.cons₂ _ (.cons₂ _ (.cons₂ _ (.cons₂ _ (.cons₂ _ (.cons₂ _ (.cons₂ _ (.cons₂ _ (.cons₂ _ .slnil))))))))))) hq) (fun r1 rm r2 => (((((((((((vals_pick r1 0).append (vals_pick rm 0)).append (vals_pick rm 1)).append (vals_pick rm 2)).append (vals_pick rm 3)).append (vals_pick rm 4)).append (vals_pick rm 5)).append (vals_pick rm 6)).append (vals_pick rm 7)).append (vals_pick rm 8)).append (vals_pick rm 9)))
    (fun D doc pm an cdv ct us mv ws h1 hm h2 => match us, mv, ws, h1, hm, h2 with | [_], [_, _, _, _, _, _, _, _, _, _], [], _, _, _ => ⟨_, _, _, _, _, _, rfl, rfl, ⟨_, _, _, _, _, _, rfl, rfl, ⟨_, _, _, _, _, _, rfl, rfl, ⟨_, _, _, _, _, _, rfl, rfl, ⟨_, _, _, _, _, _, rfl, rfl, ⟨_, _, _, _, _, _, rfl, rfl, ⟨_, _, _, _, _, _, rfl, rfl, ⟨_, _, _, _, _, _, rfl, rfl, ⟨_, _, _, _, _, _, rfl, rfl, ⟨_, _, _, _, _, _, rfl, rfl, rfl⟩⟩⟩⟩⟩⟩⟩⟩⟩⟩)
theorem kb_Style_init_1_wide_high_least_wide_least_high_most_wide_most_high_grow_shrink_rims_stand (T : Tx K mg) : ∃ mv : List Value, KBn K T.d_Style_init.fd ["self", "wide", "high", "least_wide", "least_high", "most_wide", "most_high", "grow", "shrink", "rims", "stand"] 1 ["wide", "high", "least_wide", "least_high", "most_wide", "most_high", "grow", "shrink", "rims", "stand"] (fun us ws => pick1 0 us ++ pick1 0 ws ++ pick1 1 ws ++ pick1 2 ws ++ pick1 3 ws ++ pick1 4 ws ++ pick1 5 ws ++ pick1 6 ws ++ pick1 7 ws ++ pick1 8 ws ++ pick1 9 ws) (fun vs zs => pick1 0 vs ++ pick1 0 zs ++ pick1 1 zs ++ pick1 2 zs ++ pick1 3 zs ++ pick1 4 zs ++ pick1 5 zs ++ pick1 6 zs ++ pick1 7 zs ++ pick1 8 zs ++ pick1 9 zs) := by
  exact T.d_Style_init.FD.kbinds0 1 ["wide", "high", "least_wide", "least_high", "most_wide", "most_high", "grow", "shrink", "rims", "stand"] [] (fun us mv ws => pick1 0 us ++ pick1 0 ws ++ pick1 1 ws ++ pick1 2 ws ++ pick1 3 ws ++ pick1 4 ws ++ pick1 5 ws ++ pick1 6 ws ++ pick1 7 ws ++ pick1 8 ws ++ pick1 9 ws) (by intro z; cases z) (fun q hq => List.Sublist.subset (show List.Sublist _ _ from (.cons _ (.cons _ (.cons _ (.cons _ (.cons _ (.cons _ (.cons _ (.cons _ (.cons _ (.cons _ .slnil))))))))))) hq) (fun r1 rm r2 => (((((((((((vals_pick r1 0).append (vals_pick r2 0)).append (vals_pick r2 1)).append (vals_pick r2 2)).append (vals_pick r2 3)).append (vals_pick r2 4)).append (vals_pick r2 5)).append (vals_pick r2 6)).append (vals_pick r2 7)).append (vals_pick r2 8)).append (vals_pick r2 9)))
    (fun D doc pm an cdv ct us mv ws h1 hm h2 => match us, mv, ws, h1, hm, h2 with | [_], [], [_, _, _, _, _, _, _, _, _, _], _, _, _ => (show _ = _ by kernel_rfl))
theorem kb_Style_init_1_stand (T : Tx K mg) : ∃ mv : List Value, KBn K T.d_Style_init.fd ["self", "wide", "high", "least_wide", "least_high", "most_wide", "most_high", "grow", "shrink", "rims", "stand"] 1 ["stand"] (fun us ws => pick1 0 us ++ pick1 0 mv ++ pick1 1 mv ++ pick1 2 mv ++ pick1 3 mv ++ pick1 4 mv ++ pick1 5 mv ++ pick1 6 mv ++ pick1 7 mv ++ pick1 8 mv ++ pick1 0 ws) (fun vs zs => pick1 0 vs ++ pick1 0 (([("wide", .non), ("high", .non), ("least_wide", .non), ("least_high", .non), ("most_wide", .non), ("most_high", .non), ("grow", .int 0), ("shrink", .int 1), ("rims", .ref T.U_NO_RIMS)] : List (Str × V)).map (·.2)) ++ pick1 1 (([("wide", .non), ("high", .non), ("least_wide", .non), ("least_high", .non), ("most_wide", .non), ("most_high", .non), ("grow", .int 0), ("shrink", .int 1), ("rims", .ref T.U_NO_RIMS)] : List (Str × V)).map (·.2)) ++ pick1 2 (([("wide", .non), ("high", .non), ("least_wide", .non), ("least_high", .non), ("most_wide", .non), ("most_high", .non), ("grow", .int 0), ("shrink", .int 1), ("rims", .ref T.U_NO_RIMS)] : List (Str × V)).map (·.2)) ++ pick1 3 (([("wide", .non), ("high", .non), ("least_wide", .non), ("least_high", .non), ("most_wide", .non), ("most_high", .non), ("grow", .int 0), ("shrink", .int 1), ("rims", .ref T.U_NO_RIMS)] : List (Str × V)).map (·.2)) ++ pick1 4 (([("wide", .non), ("high", .non), ("least_wide", .non), ("least_high", .non), ("most_wide", .non), ("most_high", .non), ("grow", .int 0), ("shrink", .int 1), ("rims", .ref T.U_NO_RIMS)] : List (Str × V)).map (·.2)) ++ pick1 5 (([("wide", .non), ("high", .non), ("least_wide", .non), ("least_high", .non), ("most_wide", .non), ("most_high", .non), ("grow", .int 0), ("shrink", .int 1), ("rims", .ref T.U_NO_RIMS)] : List (Str × V)).map (·.2)) ++ pick1 6 (([("wide", .non), ("high", .non), ("least_wide", .non), ("least_high", .non), ("most_wide", .non), ("most_high", .non), ("grow", .int 0), ("shrink", .int 1), ("rims", .ref T.U_NO_RIMS)] : List (Str × V)).map (·.2)) ++ pick1 7 (([("wide", .non), ("high", .non), ("least_wide", .non), ("least_high", .non), ("most_wide", .non), ("most_high", .non), ("grow", .int 0), ("shrink", .int 1), ("rims", .ref T.U_NO_RIMS)] : List (Str × V)).map (·.2)) ++ pick1 8 (([("wide", .non), ("high", .non), ("least_wide", .non), ("least_high", .non), ("most_wide", .non), ("most_high", .non), ("grow", .int 0), ("shrink", .int 1), ("rims", .ref T.U_NO_RIMS)] : List (Str × V)).map (·.2)) ++ pick1 0 zs) := by
  exact T.d_Style_init.FD.kbinds0 1 ["stand"] [("wide", .non), ("high", .non), ("least_wide", .non), ("least_high", .non), ("most_wide", .non), ("most_high", .non), ("grow", .int 0), ("shrink", .int 1), ("rims", .ref T.U_NO_RIMS)] (fun us mv ws => pick1 0 us ++ pick1 0 mv ++ pick1 1 mv ++ pick1 2 mv ++ pick1 3 mv ++ pick1 4 mv ++ pick1 5 mv ++ pick1 6 mv ++ pick1 7 mv ++ pick1 8 mv ++ pick1 0 ws) (by intro z; cases z) (fun q hq => List.Sublist.subset (show List.Sublist _ _ from (.cons₂ _ (.cons₂ _ (.cons₂ _ (.cons₂ _ (.cons₂ _ (.cons₂ _ (.cons₂ _ (.cons₂ _ (.cons₂ _ (.cons _ .slnil))))))))))) hq) (fun r1 rm r2 => (((((((((((vals_pick r1 0).append (vals_pick rm 0)).append (vals_pick rm 1)).append (vals_pick rm 2)).append (vals_pick rm 3)).append (vals_pick rm 4)).append (vals_pick rm 5)).append (vals_pick rm 6)).append (vals_pick rm 7)).append (vals_pick rm 8)).append (vals_pick r2 0)))
    (fun D doc pm an cdv ct us mv ws h1 hm h2 => match us, mv, ws, h1, hm, h2 with | [_], [_, _, _, _, _, _, _, _, _], [_], _, _, _ => ⟨_, _, _, _, _, _, rfl, rfl, ⟨_, _, _, _, _, _, rfl, rfl, ⟨_, _, _, _, _, _, rfl, rfl, ⟨_, _, _, _, _, _, rfl, rfl, ⟨_, _, _, _, _, _, rfl, rfl, ⟨_, _, _, _, _, _, rfl, rfl, ⟨_, _, _, _, _, _, rfl, rfl, ⟨_, _, _, _, _, _, rfl, rfl, ⟨_, _, _, _, _, _, rfl, rfl, rfl⟩⟩⟩⟩⟩⟩⟩⟩⟩)
theorem kb_Style_init_1_rims (T : Tx K mg) : ∃ mv : List Value, KBn K T.d_Style_init.fd ["self", "wide", "high", "least_wide", "least_high", "most_wide", "most_high", "grow", "shrink", "rims", "stand"] 1 ["rims"] (fun us ws => pick1 0 us ++ pick1 0 mv ++ pick1 1 mv ++ pick1 2 mv ++ pick1 3 mv ++ pick1 4 mv ++ pick1 5 mv ++ pick1 6 mv ++ pick1 7 mv ++ pick1 0 ws ++ pick1 8 mv) (fun vs zs => pick1 0 vs ++ pick1 0 (([("wide", .non), ("high", .non), ("least_wide", .non), ("least_high", .non), ("most_wide", .non), ("most_high", .non), ("grow", .int 0), ("shrink", .int 1), ("stand", .non)] : List (Str × V)).map (·.2)) ++ pick1 1 (([("wide", .non), ("high", .non), ("least_wide", .non), ("least_high", .non), ("most_wide", .non), ("most_high", .non), ("grow", .int 0), ("shrink", .int 1), ("stand", .non)] : List (Str × V)).map (·.2)) ++ pick1 2 (([("wide", .non), ("high", .non), ("least_wide", .non), ("least_high", .non), ("most_wide", .non), ("most_high", .non), ("grow", .int 0), ("shrink", .int 1), ("stand", .non)] : List (Str × V)).map (·.2)) ++ pick1 3 (([("wide", .non), ("high", .non), ("least_wide", .non), ("least_high", .non), ("most_wide", .non), ("most_high", .non), ("grow", .int 0), ("shrink", .int 1), ("stand", .non)] : List (Str × V)).map (·.2)) ++ pick1 4 (([("wide", .non), ("high", .non), ("least_wide", .non), ("least_high", .non), ("most_wide", .non), ("most_high", .non), ("grow", .int 0), ("shrink", .int 1), ("stand", .non)] : List (Str × V)).map (·.2)) ++ pick1 5 (([("wide", .non), ("high", .non), ("least_wide", .non), ("least_high", .non), ("most_wide", .non), ("most_high", .non), ("grow", .int 0), ("shrink", .int 1), ("stand", .non)] : List (Str × V)).map (·.2)) ++ pick1 6 (([("wide", .non), ("high", .non), ("least_wide", .non), ("least_high", .non), ("most_wide", .non), ("most_high", .non), ("grow", .int 0), ("shrink", .int 1), ("stand", .non)] : List (Str × V)).map (·.2)) ++ pick1 7 (([("wide", .non), ("high", .non), ("least_wide", .non), ("least_high", .non), ("most_wide", .non), ("most_high", .non), ("grow", .int 0), ("shrink", .int 1), ("stand", .non)] : List (Str × V)).map (·.2)) ++ pick1 0 zs ++ pick1 8 (([("wide", .non), ("high", .non), ("least_wide", .non), ("least_high", .non), ("most_wide", .non), ("most_high", .non), ("grow", .int 0), ("shrink", .int 1), ("stand", .non)] : List (Str × V)).map (·.2))) := by
  exact T.d_Style_init.FD.kbinds0 1 ["rims"] [("wide", .non), ("high", .non), ("least_wide", .non), ("least_high", .non), ("most_wide", .non), ("most_high", .non), ("grow", .int 0), ("shrink", .int 1), ("stand", .non)] (fun us mv ws => pick1 0 us ++ pick1 0 mv ++ pick1 1 mv ++ pick1 2 mv ++ pick1 3 mv ++ pick1 4 mv ++ pick1 5 mv ++ pick1 6 mv ++ pick1 7 mv ++ pick1 0 ws ++ pick1 8 mv) (by intro z; cases z) (fun q hq => List.Sublist.subset (show List.Sublist _ _ from (.cons₂ _ (.cons₂ _ (.cons₂ _ (.cons₂ _ (.cons₂ _ (.cons₂ _ (.cons₂ _ (.cons₂ _ (.cons _ (.cons₂ _ .slnil))))))))))) hq) (fun r1 rm r2 => (((((((((((vals_pick r1 0).append (vals_pick rm 0)).append (vals_pick rm 1)).append (vals_pick rm 2)).append (vals_pick rm 3)).append (vals_pick rm 4)).append (vals_pick rm 5)).append (vals_pick rm 6)).append (vals_pick rm 7)).append (vals_pick r2 0)).append (vals_pick rm 8)))
    (fun D doc pm an cdv ct us mv ws h1 hm h2 => match us, mv, ws, h1, hm, h2 with | [_], [_, _, _, _, _, _, _, _, _], [_], _, _, _ => ⟨_, _, _, _, _, _, rfl, rfl, ⟨_, _, _, _, _, _, rfl, rfl, ⟨_, _, _, _, _, _, rfl, rfl, ⟨_, _, _, _, _, _, rfl, rfl, ⟨_, _, _, _, _, _, rfl, rfl, ⟨_, _, _, _, _, _, rfl, rfl, ⟨_, _, _, _, _, _, rfl, rfl, ⟨_, _, _, _, _, _, rfl, rfl, ⟨_, _, _, _, _, _, rfl, rfl, rfl⟩⟩⟩⟩⟩⟩⟩⟩⟩)
theorem kb_Style_init_1_shrink (T : Tx K mg) : ∃ mv : List Value, KBn K T.d_Style_init.fd ["self", "wide", "high", "least_wide", "least_high", "most_wide", "most_high", "grow", "shrink", "rims", "stand"] 1 ["shrink"] (fun us ws => pick1 0 us ++ pick1 0 mv ++ pick1 1 mv ++ pick1 2 mv ++ pick1 3 mv ++ pick1 4 mv ++ pick1 5 mv ++ pick1 6 mv ++ pick1 0 ws ++ pick1 7 mv ++ pick1 8 mv) (fun vs zs => pick1 0 vs ++ pick1 0 (([("wide", .non), ("high", .non), ("least_wide", .non), ("least_high", .non), ("most_wide", .non), ("most_high", .non), ("grow", .int 0), ("rims", .ref T.U_NO_RIMS), ("stand", .non)] : List (Str × V)).map (·.2)) ++ pick1 1 (([("wide", .non), ("high", .non), ("least_wide", .non), ("least_high", .non), ("most_wide", .non), ("most_high", .non), ("grow", .int 0), ("rims", .ref T.U_NO_RIMS), ("stand", .non)] : List (Str × V)).map (·.2)) ++ pick1 2 (([("wide", .non), ("high", .non), ("least_wide", .non), ("least_high", .non), ("most_wide", .non), ("most_high", .non), ("grow", .int 0), ("rims", .ref T.U_NO_RIMS), ("stand", .non)] : List (Str × V)).map (·.2)) ++ pick1 3 (([("wide", .non), ("high", .non), ("least_wide", .non), ("least_high", .non), ("most_wide", .non), ("most_high", .non), ("grow", .int 0), ("rims", .ref T.U_NO_RIMS), ("stand", .non)] : List (Str × V)).map (·.2)) ++ pick1 4 (([("wide", .non), ("high", .non), ("least_wide", .non), ("least_high", .non), ("most_wide", .non), ("most_high", .non), ("grow", .int 0), ("rims", .ref T.U_NO_RIMS), ("stand", .non)] : List (Str × V)).map (·.2)) ++ pick1 5 (([("wide", .non), ("high", .non), ("least_wide", .non), ("least_high", .non), ("most_wide", .non), ("most_high", .non), ("grow", .int 0), ("rims", .ref T.U_NO_RIMS), ("stand", .non)] : List (Str × V)).map (·.2)) ++ pick1 6 (([("wide", .non), ("high", .non), ("least_wide", .non), ("least_high", .non), ("most_wide", .non), ("most_high", .non), ("grow", .int 0), ("rims", .ref T.U_NO_RIMS), ("stand", .non)] : List (Str × V)).map (·.2)) ++ pick1 0 zs ++ pick1 7 (([("wide", .non), ("high", .non), ("least_wide", .non), ("least_high", .non), ("most_wide", .non), ("most_high", .non), ("grow", .int 0), ("rims", .ref T.U_NO_RIMS), ("stand", .non)] : List (Str × V)).map (·.2)) ++ pick1 8 (([("wide", .non), ("high", .non), ("least_wide", .non), ("least_high", .non), ("most_wide", .non), ("most_high", .non), ("grow", .int 0), ("rims", .ref T.U_NO_RIMS), ("stand", .non)] : List (Str × V)).map (·.2))) := by
  exact T.d_Style_init.FD.kbinds0 1 ["shrink"] [("wide", .non), ("high", .non), ("least_wide", .non), ("least_high", .non), ("most_wide", .non), ("most_high", .non), ("grow", .int 0), ("rims", .ref T.U_NO_RIMS), ("stand", .non)] (fun us mv ws => pick1 0 us ++ pick1 0 mv ++ pick1 1 mv ++ pick1 2 mv ++ pick1 3 mv ++ pick1 4 mv ++ pick1 5 mv ++ pick1 6 mv ++ pick1 0 ws ++ pick1 7 mv ++ pick1 8 mv) (by intro z; cases z) (fun q hq => List.Sublist.subset (show List.Sublist _ _ from (.cons₂ _ (.cons₂ _ (.cons₂ _ (.cons₂ _ (.cons₂ _ (.cons₂ _ (.cons₂ _ (.cons _ (.cons₂ _ (.cons₂ _ .slnil))))))))))) hq) (fun r1 rm r2 => (((((((((((vals_pick r1 0).append (vals_pick rm 0)).append (vals_pick rm 1)).append (vals_pick rm 2)).append (vals_pick rm 3)).append (vals_pick rm 4)).append (vals_pick rm 5)).append (vals_pick rm 6)).append (vals_pick r2 0)).append (vals_pick rm 7)).append (vals_pick rm 8)))
    (fun D doc pm an cdv ct us mv ws h1 hm h2 => match us, mv, ws, h1, hm, h2 with | [_], [_, _, _, _, _, _, _, _, _], [_], _, _, _ => ⟨_, _, _, _, _, _, rfl, rfl, ⟨_, _, _, _, _, _, rfl, rfl, ⟨_, _, _, _, _, _, rfl, rfl, ⟨_, _, _, _, _, _, rfl, rfl, ⟨_, _, _, _, _, _, rfl, rfl, ⟨_, _, _, _, _, _, rfl, rfl, ⟨_, _, _, _, _, _, rfl, rfl, ⟨_, _, _, _, _, _, rfl, rfl, ⟨_, _, _, _, _, _, rfl, rfl, rfl⟩⟩⟩⟩⟩⟩⟩⟩⟩)
theorem kb_Style_init_1_grow (T : Tx K mg) : ∃ mv : List Value, KBn K T.d_Style_init.fd ["self", "wide", "high", "least_wide", "least_high", "most_wide", "most_high", "grow", "shrink", "rims", "stand"] 1 ["grow"] (fun us ws => pick1 0 us ++ pick1 0 mv ++ pick1 1 mv ++ pick1 2 mv ++ pick1 3 mv ++ pick1 4 mv ++ pick1 5 mv ++ pick1 0 ws ++ pick1 6 mv ++ pick1 7 mv ++ pick1 8 mv) (fun vs zs => pick1 0 vs ++ pick1 0 (([("wide", .non), ("high", .non), ("least_wide", .non), ("least_high", .non), ("most_wide", .non), ("most_high", .non), ("shrink", .int 1), ("rims", .ref T.U_NO_RIMS), ("stand", .non)] : List (Str × V)).map (·.2)) ++ pick1 1 (([("wide", .non), ("high", .non), ("least_wide", .non), ("least_high", .non), ("most_wide", .non), ("most_high", .non), ("shrink", .int 1), ("rims", .ref T.U_NO_RIMS), ("stand", .non)] : List (Str × V)).map (·.2)) ++ pick1 2 (([("wide", .non), ("high", .non), ("least_wide", .non), ("least_high", .non), ("most_wide", .non), ("most_high", .non), ("shrink", .int 1), ("rims", .ref T.U_NO_RIMS), ("stand", .non)] : List (Str × V)).map (·.2)) ++ pick1 3 (([("wide", .non), ("high", .non), ("least_wide", .non), ("least_high", .non), ("most_wide", .non), ("most_high", .non), ("shrink", .int 1), ("rims", .ref T.U_NO_RIMS), ("stand", .non)] : List (Str × V)).map (·.2)) ++ pick1 4 (([("wide", .non), ("high", .non), ("least_wide", .non), ("least_high", .non), ("most_wide", .non), ("most_high", .non), ("shrink", .int 1), ("rims", .ref T.U_NO_RIMS), ("stand", .non)] : List (Str × V)).map (·.2)) ++ pick1 5 (([("wide", .non), ("high", .non), ("least_wide", .non), ("least_high", .non), ("most_wide", .non), ("most_high", .non), ("shrink", .int 1), ("rims", .ref T.U_NO_RIMS), ("stand", .non)] : List (Str × V)).map (·.2)) ++ pick1 0 zs ++ pick1 6 (([("wide", .non), ("high", .non), ("least_wide", .non), ("least_high", .non), ("most_wide", .non), ("most_high", .non), ("shrink", .int 1), ("rims", .ref T.U_NO_RIMS), ("stand", .non)] : List (Str × V)).map (·.2)) ++ pick1 7 (([("wide", .non), ("high", .non), ("least_wide", .non), ("least_high", .non), ("most_wide", .non), ("most_high", .non), ("shrink", .int 1), ("rims", .ref T.U_NO_RIMS), ("stand", .non)] : List (Str × V)).map (·.2)) ++ pick1 8 (([("wide", .non), ("high", .non), ("least_wide", .non), ("least_high", .non), ("most_wide", .non), ("most_high", .non), ("shrink", .int 1), ("rims", .ref T.U_NO_RIMS), ("stand", .non)] : List (Str × V)).map (·.2))) := by
  exact T.d_Style_init.FD.kbinds0 1 ["grow"] [("wide", .non), ("high", .non), ("least_wide", .non), ("least_high", .non), ("most_wide", .non), ("most_high", .non), ("shrink", .int 1), ("rims", .ref T.U_NO_RIMS), ("stand", .non)] (fun us mv ws => pick1 0 us ++ pick1 0 mv ++ pick1 1 mv ++ pick1 2 mv ++ pick1 3 mv ++ pick1 4 mv ++ pick1 5 mv ++ pick1 0 ws ++ pick1 6 mv ++ pick1 7 mv ++ pick1 8 mv) (by intro z; cases z) (fun q hq => List.Sublist.subset (show List.Sublist _ _ from (.cons₂ _ (.cons₂ _ (.cons₂ _ (.cons₂ _ (.cons₂ _ (.cons₂ _ (.cons _ (.cons₂ _ (.cons₂ _ (.cons₂ _ .slnil))))))))))) hq) (fun r1 rm r2 => (((((((((((vals_pick r1 0).append (vals_pick rm 0)).append (vals_pick rm 1)).append (vals_pick rm 2)).append (vals_pick rm 3)).append (vals_pick rm 4)).append (vals_pick rm 5)).append (vals_pick r2 0)).append (vals_pick rm 6)).append (vals_pick rm 7)).append (vals_pick rm 8)))
    (fun D doc pm an cdv ct us mv ws h1 hm h2 => match us, mv, ws, h1, hm, h2 with | [_], [_, _, _, _, _, _, _, _, _], [_], _, _, _ => ⟨_, _, _, _, _, _, rfl, rfl, ⟨_, _, _, _, _, _, rfl, rfl, ⟨_, _, _, _, _, _, rfl, rfl, ⟨_, _, _, _, _, _, rfl, rfl, ⟨_, _, _, _, _, _, rfl, rfl, ⟨_, _, _, _, _, _, rfl, rfl, ⟨_, _, _, _, _, _, rfl, rfl, ⟨_, _, _, _, _, _, rfl, rfl, ⟨_, _, _, _, _, _, rfl, rfl, rfl⟩⟩⟩⟩⟩⟩⟩⟩⟩)
theorem kb_Style_init_1_most_high (T : Tx K mg) : ∃ mv : List Value, KBn K T.d_Style_init.fd ["self", "wide", "high", "least_wide", "least_high", "most_wide", "most_high", "grow", "shrink", "rims", "stand"] 1 ["most_high"] (fun us ws => pick1 0 us ++ pick1 0 mv ++ pick1 1 mv ++ pick1 2 mv ++ pick1 3 mv ++ pick1 4 mv ++ pick1 0 ws ++ pick1 5 mv ++ pick1 6 mv ++ pick1 7 mv ++ pick1 8 mv) (fun vs zs => pick1 0 vs ++ pick1 0 (([("wide", .non), ("high", .non), ("least_wide", .non), ("least_high", .non), ("most_wide", .non), ("grow", .int 0), ("shrink", .int 1), ("rims", .ref T.U_NO_RIMS), ("stand", .non)] : List (Str × V)).map (·.2)) ++ pick1 1 (([("wide", .non), ("high", .non), ("least_wide", .non), ("least_high", .non), ("most_wide", .non), ("grow", .int 0), ("shrink", .int 1), ("rims", .ref T.U_NO_RIMS), ("stand", .non)] : List (Str × V)).map (·.2)) ++ pick1 2 (([("wide", .non), ("high", .non), ("least_wide", .non), ("least_high", .non), ("most_wide", .non), ("grow", .int 0), ("shrink", .int 1), ("rims", .ref T.U_NO_RIMS), ("stand", .non)] : List (Str × V)).map (·.2)) ++ pick1 3 (([("wide", .non), ("high", .non), ("least_wide", .non), ("least_high", .non), ("most_wide", .non), ("grow", .int 0), ("shrink", .int 1), ("rims", .ref T.U_NO_RIMS), ("stand", .non)] : List (Str × V)).map (·.2)) ++ pick1 4 (([("wide", .non), ("high", .non), ("least_wide", .non), ("least_high", .non), ("most_wide", .non), ("grow", .int 0), ("shrink", .int 1), ("rims", .ref T.U_NO_RIMS), ("stand", .non)] : List (Str × V)).map (·.2)) ++ pick1 0 zs ++ pick1 5 (([("wide", .non), ("high", .non), ("least_wide", .non), ("least_high", .non), ("most_wide", .non), ("grow", .int 0), ("shrink", .int 1), ("rims", .ref T.U_NO_RIMS), ("stand", .non)] : List (Str × V)).map (·.2)) ++ pick1 6 (([("wide", .non), ("high", .non), ("least_wide", .non), ("least_high", .non), ("most_wide", .non), ("grow", .int 0), ("shrink", .int 1), ("rims", .ref T.U_NO_RIMS), ("stand", .non)] : List (Str × V)).map (·.2)) ++ pick1 7 (([("wide", .non), ("high", .non), ("least_wide", .non), ("least_high", .non), ("most_wide", .non), ("grow", .int 0), ("shrink", .int 1), ("rims", .ref T.U_NO_RIMS), ("stand", .non)] : List (Str × V)).map (·.2)) ++ pick1 8 (([("wide", .non), ("high", .non), ("least_wide", .non), ("least_high", .non), ("most_wide", .non), ("grow", .int 0), ("shrink", .int 1), ("rims", .ref T.U_NO_RIMS), ("stand", .non)] : List (Str × V)).map (·.2))) := by
  exact T.d_Style_init.FD.kbinds0 1 ["most_high"] [("wide", .non), ("high", .non), ("least_wide", .non), ("least_high", .non), ("most_wide", .non), ("grow", .int 0), ("shrink", .int 1), ("rims", .ref T.U_NO_RIMS), ("stand", .non)] (fun us mv ws => pick1 0 us ++ pick1 0 mv ++ pick1 1 mv ++ pick1 2 mv ++ pick1 3 mv ++ pick1 4 mv ++ pick1 0 ws ++ pick1 5 mv ++ pick1 6 mv ++ pick1 7 mv ++ pick1 8 mv) (by intro z; cases z) (fun q hq => List.Sublist.subset (show List.Sublist _ _ from (.cons₂ _ (.cons₂ _ (.cons₂ _ (.cons₂ _ (.cons₂ _ (.cons _ (.cons₂ _ (.cons₂ _ (.cons₂ _ (.cons₂ _ .slnil))))))))))) hq) (fun r1 rm r2 => (((((((((((vals_pick r1 0).append (vals_pick rm 0)).append (vals_pick rm 1)).append (vals_pick rm 2)).append (vals_pick rm 3)).append (vals_pick rm 4)).append (vals_pick r2 0)).append (vals_pick rm 5)).append (vals_pick rm 6)).append (vals_pick rm 7)).append (vals_pick rm 8)))
    (fun D doc pm an cdv ct us mv ws h1 hm h2 => match us, mv, ws, h1, hm, h2 with | [_], [_, _, _, _, _, _, _, _, _], [_], _, _, _ => ⟨_, _, _, _, _, _, rfl, rfl, ⟨_, _, _, _, _, _, rfl, rfl, ⟨_, _, _, _, _, _, rfl, rfl, ⟨_, _, _, _, _, _, rfl, rfl, ⟨_, _, _, _, _, _, rfl, rfl, ⟨_, _, _, _, _, _, rfl, rfl, ⟨_, _, _, _, _, _, rfl, rfl, ⟨_, _, _, _, _, _, rfl, rfl, ⟨_, _, _, _, _, _, rfl, rfl, rfl⟩⟩⟩⟩⟩⟩⟩⟩⟩)
theorem kb_Style_init_1_most_wide (T : Tx K mg) : ∃ mv : List Value, KBn K T.d_Style_init.fd ["self", "wide", "high", "least_wide", "least_high", "most_wide", "most_high", "grow", "shrink", "rims", "stand"] 1 ["most_wide"] (fun us ws => pick1 0 us ++ pick1 0 mv ++ pick1 1 mv ++ pick1 2 mv ++ pick1 3 mv ++ pick1 0 ws ++ pick1 4 mv ++ pick1 5 mv ++ pick1 6 mv ++ pick1 7 mv ++ pick1 8 mv) (fun vs zs => pick1 0 vs ++ pick1 0 (([("wide", .non), ("high", .non), ("least_wide", .non), ("least_high", .non), ("most_high", .non), ("grow", .int 0), ("shrink", .int 1), ("rims", .ref T.U_NO_RIMS), ("stand", .non)] : List (Str × V)).map (·.2)) ++ pick1 1 (([("wide", .non), ("high", .non), ("least_wide", .non), ("least_high", .non), ("most_high", .non), ("grow", .int 0), ("shrink", .int 1), ("rims", .ref T.U_NO_RIMS), ("stand", .non)] : List (Str × V)).map (·.2)) ++ pick1 2 (([("wide", .non), ("high", .non), ("least_wide", .non), ("least_high", .non), ("most_high", .non), ("grow", .int 0), ("shrink", .int 1), ("rims", .ref T.U_NO_RIMS), ("stand", .non)] : List (Str × V)).map (·.2)) ++ pick1 3 (([("wide", .non), ("high", .non), ("least_wide", .non), ("least_high", .non), ("most_high", .non), ("grow", .int 0), ("shrink", .int 1), ("rims", .ref T.U_NO_RIMS), ("stand", .non)] : List (Str × V)).map (·.2)) ++ pick1 0 zs ++ pick1 4 (([("wide", .non), ("high", .non), ("least_wide", .non), ("least_high", .non), ("most_high", .non), ("grow", .int 0), ("shrink", .int 1), ("rims", .ref T.U_NO_RIMS), ("stand", .non)] : List (Str × V)).map (·.2)) ++ pick1 5 (([("wide", .non), ("high", .non), ("least_wide", .non), ("least_high", .non), ("most_high", .non), ("grow", .int 0), ("shrink", .int 1), ("rims", .ref T.U_NO_RIMS), ("stand", .non)] : List (Str × V)).map (·.2)) ++ pick1 6 (([("wide", .non), ("high", .non), ("least_wide", .non), ("least_high", .non), ("most_high", .non), ("grow", .int 0), ("shrink", .int 1), ("rims", .ref T.U_NO_RIMS), ("stand", .non)] : List (Str × V)).map (·.2)) ++ pick1 7 (([("wide", .non), ("high", .non), ("least_wide", .non), ("least_high", .non), ("most_high", .non), ("grow", .int 0), ("shrink", .int 1), ("rims", .ref T.U_NO_RIMS), ("stand", .non)] : List (Str × V)).map (·.2)) ++ pick1 8 (([("wide", .non), ("high", .non), ("least_wide", .non), ("least_high", .non), ("most_high", .non), ("grow", .int 0), ("shrink", .int 1), ("rims", .ref T.U_NO_RIMS), ("stand", .non)] : List (Str × V)).map (·.2))) := by
  exact T.d_Style_init.FD.kbinds0 1 ["most_wide"] [("wide", .non), ("high", .non), ("least_wide", .non), ("least_high", .non), ("most_high", .non), ("grow", .int 0), ("shrink", .int 1), ("rims", .ref T.U_NO_RIMS), ("stand", .non)] (fun us mv ws => pick1 0 us ++ pick1 0 mv ++ pick1 1 mv ++ pick1 2 mv ++ pick1 3 mv ++ pick1 0 ws ++ pick1 4 mv ++ pick1 5 mv ++ pick1 6 mv ++ pick1 7 mv ++ pick1 8 mv) (by intro z; cases z) (fun q hq => List.Sublist.subset (show List.Sublist _ _ from (.cons₂ _ (.cons₂ _ (.cons₂ _ (.cons₂ _ (.cons _ (.cons₂ _ (.cons₂ _ (.cons₂ _ (.cons₂ _ (.cons₂ _ .slnil))))))))))) hq) (fun r1 rm r2 => (((((((((((vals_pick r1 0).append (vals_pick rm 0)).append (vals_pick rm 1)).append (vals_pick rm 2)).append (vals_pick rm 3)).append (vals_pick r2 0)).append (vals_pick rm 4)).append (vals_pick rm 5)).append (vals_pick rm 6)).append (vals_pick rm 7)).append (vals_pick rm 8)))
    (fun D doc pm an cdv ct us mv ws h1 hm h2 => match us, mv, ws, h1, hm, h2 with | [_], [_, _, _, _, _, _, _, _, _], [_], _, _, _ => ⟨_, _, _, _, _, _, rfl, rfl, ⟨_, _, _, _, _, _, rfl, rfl, ⟨_, _, _, _, _, _, rfl, rfl, ⟨_, _, _, _, _, _, rfl, rfl, ⟨_, _, _, _, _, _, rfl, rfl, ⟨_, _, _, _, _, _, rfl, rfl, ⟨_, _, _, _, _, _, rfl, rfl, ⟨_, _, _, _, _, _, rfl, rfl, ⟨_, _, _, _, _, _, rfl, rfl, rfl⟩⟩⟩⟩⟩⟩⟩⟩⟩)
theorem kb_Style_init_1_least_high (T : Tx K mg) : ∃ mv : List Value, KBn K T.d_Style_init.fd ["self", "wide", "high", "least_wide", "least_high", "most_wide", "most_high", "grow", "shrink", "rims", "stand"] 1 ["least_high"] (fun us ws => pick1 0 us ++ pick1 0 mv ++ pick1 1 mv ++ pick1 2 mv ++ pick1 0 ws ++ pick1 3 mv ++ pick1 4 mv ++ pick1 5 mv ++ pick1 6 mv ++ pick1 7 mv ++ pick1 8 mv) (fun vs zs => pick1 0 vs ++ pick1 0 (([("wide", .non), ("high", .non), ("least_wide", .non), ("most_wide", .non), ("most_high", .non), ("grow", .int 0), ("shrink", .int 1), ("rims", .ref T.U_NO_RIMS), ("stand", .non)] : List (Str × V)).map (·.2)) ++ pick1 1 (([("wide", .non), ("high", .non), ("least_wide", .non), ("most_wide", .non), ("most_high", .non), ("grow", .int 0), ("shrink", .int 1), ("rims", .ref T.U_NO_RIMS), ("stand", .non)] : List (Str × V)).map (·.2)) ++ pick1 2 (([("wide", .non), ("high", .non), ("least_wide", .non), ("most_wide", .non), ("most_high", .non), ("grow", .int 0), ("shrink", .int 1), ("rims", .ref T.U_NO_RIMS), ("stand", .non)] : List (Str × V)).map (·.2)) ++ pick1 0 zs ++ pick1 3 (([("wide", .non), ("high", .non), ("least_wide", .non), ("most_wide", .non), ("most_high", .non), ("grow", .int 0), ("shrink", .int 1), ("rims", .ref T.U_NO_RIMS), ("stand", .non)] : List (Str × V)).map (·.2)) ++ pick1 4 (([("wide", .non), ("high", .non), ("least_wide", .non), ("most_wide", .non), ("most_high", .non), ("grow", .int 0), ("shrink", .int 1), ("rims", .ref T.U_NO_RIMS), ("stand", .non)] : List (Str × V)).map (·.2)) ++ pick1 5 (([("wide", .non), ("high", .non), ("least_wide", .non), ("most_wide", .non), ("most_high", .non), ("grow", .int 0), ("shrink", .int 1), ("rims", .ref T.U_NO_RIMS), ("stand", .non)] : List (Str × V)).map (·.2)) ++ pick1 6 (([("wide", .non), ("high", .non), ("least_wide", .non), ("most_wide", .non), ("most_high", .non), ("grow", .int 0), ("shrink", .int 1), ("rims", .ref T.U_NO_RIMS), ("stand", .non)] : List (Str × V)).map (·.2)) ++ pick1 7 (([("wide", .non), ("high", .non), ("least_wide", .non), ("most_wide", .non), ("most_high", .non), ("grow", .int 0), ("shrink", .int 1), ("rims", .ref T.U_NO_RIMS), ("stand", .non)] : List (Str × V)).map (·.2)) ++ pick1 8 (([("wide", .non), ("high", .non), ("least_wide", .non), ("most_wide", .non), ("most_high", .non), ("grow", .int 0), ("shrink", .int 1), ("rims", .ref T.U_NO_RIMS), ("stand", .non)] : List (Str × V)).map (·.2))) := by
  exact T.d_Style_init.FD.kbinds0 1 ["least_high"] [("wide", .non), ("high", .non), ("least_wide", .non), ("most_wide", .non), ("most_high", .non), ("grow", .int 0), ("shrink", .int 1), ("rims", .ref T.U_NO_RIMS), ("stand", .non)] (fun us mv ws => pick1 0 us ++ pick1 0 mv ++ pick1 1 mv ++ pick1 2 mv ++ pick1 0 ws ++ pick1 3 mv ++ pick1 4 mv ++ pick1 5 mv ++ pick1 6 mv ++ pick1 7 mv ++ pick1 8 mv) (by intro z; cases z) (fun q hq => List.Sublist.subset (show List.Sublist _ _ from (.cons₂ _ (.cons₂ _ (.cons₂ _ (.cons _ (.cons₂ _ (.cons₂ _ (.cons₂ _ (.cons₂ _ (.cons₂ _ (.cons₂ _ .slnil))))))))))) hq) (fun r1 rm r2 => (((((((((((vals_pick r1 0).append (vals_pick rm 0)).append (vals_pick rm 1)).append (vals_pick rm 2)).append (vals_pick r2 0)).append (vals_pick rm 3)).append (vals_pick rm 4)).append (vals_pick rm 5)).append (vals_pick rm 6)).append (vals_pick rm 7)).append (vals_pick rm 8)))
    (fun D doc pm an cdv ct us mv ws h1 hm h2 => match us, mv, ws, h1, hm, h2 with | [_], [_, _, _, _, _, _, _, _, _], [_], _, _, _ => ⟨_, _, _, _, _, _, rfl, rfl, ⟨_, _, _, _, _, _, rfl, rfl, ⟨_, _, _, _, _, _, rfl, rfl, ⟨_, _, _, _, _, _, rfl, rfl, ⟨_, _, _, _, _, _, rfl, rfl, ⟨_, _, _, _, _, _, rfl, rfl, ⟨_, _, _, _, _, _, rfl, rfl, ⟨_, _, _, _, _, _, rfl, rfl, ⟨_, _, _, _, _, _, rfl, rfl, rfl⟩⟩⟩⟩⟩⟩⟩⟩⟩)
theorem kb_Style_init_1_least_wide (T : Tx K mg) : ∃ mv : List Value, KBn K T.d_Style_init.fd ["self", "wide", "high", "least_wide", "least_high", "most_wide", "most_high", "grow", "shrink", "rims", "stand"] 1 ["least_wide"] (fun us ws => pick1 0 us ++ pick1 0 mv ++ pick1 1 mv ++ pick1 0 ws ++ pick1 2 mv ++ pick1 3 mv ++ pick1 4 mv ++ pick1 5 mv ++ pick1 6 mv ++ pick1 7 mv ++ pick1 8 mv) (fun vs zs => pick1 0 vs ++ pick1 0 (([("wide", .non), ("high", .non), ("least_high", .non), ("most_wide", .non), ("most_high", .non), ("grow", .int 0), ("shrink", .int 1), ("rims", .ref T.U_NO_RIMS), ("stand", .non)] : List (Str × V)).map (·.2)) ++ pick1 1 (([("wide", .non), ("high", .non), ("least_high", .non), ("most_wide", .non), ("most_high", .non), ("grow", .int 0), ("shrink", .int 1), ("rims", .ref T.U_NO_RIMS), ("stand", .non)] : List (Str × V)).map (·.2)) ++ pick1 0 zs ++ pick1 2 (([("wide", .non), ("high", .non), ("least_high", .non), ("most_wide", .non), ("most_high", .non), ("grow", .int 0), ("shrink", .int 1), ("rims", .ref T.U_NO_RIMS), ("stand", .non)] : List (Str × V)).map (·.2)) ++ pick1 3 (([("wide", .non), ("high", .non), ("least_high", .non), ("most_wide", .non), ("most_high", .non), ("grow", .int 0), ("shrink", .int 1), ("rims", .ref T.U_NO_RIMS), ("stand", .non)] : List (Str × V)).map (·.2)) ++ pick1 4 (([("wide", .non), ("high", .non), ("least_high", .non), ("most_wide", .non), ("most_high", .non), ("grow", .int 0), ("shrink", .int 1), ("rims", .ref T.U_NO_RIMS), ("stand", .non)] : List (Str × V)).map (·.2)) ++ pick1 5 (([("wide", .non), ("high", .non), ("least_high", .non), ("most_wide", .non), ("most_high", .non), ("grow", .int 0), ("shrink", .int 1), ("rims", .ref T.U_NO_RIMS), ("stand", .non)] : List (Str × V)).map (·.2)) ++ pick1 6 (([("wide", .non), ("high", .non), ("least_high", .non), ("most_wide", .non), ("most_high", .non), ("grow", .int 0), ("shrink", .int 1), ("rims", .ref T.U_NO_RIMS), ("stand", .non)] : List (Str × V)).map (·.2)) ++ pick1 7 (([("wide", .non), ("high", .non), ("least_high", .non), ("most_wide", .non), ("most_high", .non), ("grow", .int 0), ("shrink", .int 1), ("rims", .ref T.U_NO_RIMS), ("stand", .non)] : List (Str × V)).map (·.2)) ++ pick1 8 (([("wide", .non), ("high", .non), ("least_high", .non), ("most_wide", .non), ("most_high", .non), ("grow", .int 0), ("shrink", .int 1), ("rims", .ref T.U_NO_RIMS), ("stand", .non)] : List (Str × V)).map (·.2))) := by
  exact T.d_Style_init.FD.kbinds0 1 ["least_wide"] [("wide", .non), ("high", .non), ("least_high", .non), ("most_wide", .non), ("most_high", .non), ("grow", .int 0), ("shrink", .int 1), ("rims", .ref T.U_NO_RIMS), ("stand", .non)] (fun us mv ws => pick1 0 us ++ pick1 0 mv ++ pick1 1 mv ++ pick1 0 ws ++ pick1 2 mv ++ pick1 3 mv ++ pick1 4 mv ++ pick1 5 mv ++ pick1 6 mv ++ pick1 7 mv ++ pick1 8 mv) (by intro z; cases z) (fun q hq => List.Sublist.subset (show List.Sublist _ _ from (.cons₂ _ (.cons₂ _ (.cons _ (.cons₂ _ (.cons₂ _ (.cons₂ _ (.cons₂ _ (.cons₂ _ (.cons₂ _ (.cons₂ _ .slnil))))))))))) hq) (fun r1 rm r2 => (((((((((((vals_pick r1 0).append (vals_pick rm 0)).append (vals_pick rm 1)).append (vals_pick r2 0)).append (vals_pick rm 2)).append (vals_pick rm 3)).append (vals_pick rm 4)).append (vals_pick rm 5)).append (vals_pick rm 6)).append (vals_pick rm 7)).append (vals_pick rm 8)))
    (fun D doc pm an cdv ct us mv ws h1 hm h2 => match us, mv, ws, h1, hm, h2 with | [_], [_, _, _, _, _, _, _, _, _], [_], _, _, _ => ⟨_, _, _, _, _, _, rfl, rfl, ⟨_, _, _, _, _, _, rfl, rfl, ⟨_, _, _, _, _, _, rfl, rfl, ⟨_, _, _, _, _, _, rfl, rfl, ⟨_, _, _, _, _, _, rfl, rfl, ⟨_, _, _, _, _, _, rfl, rfl, ⟨_, _, _, _, _, _, rfl, rfl, ⟨_, _, _, _, _, _, rfl, rfl, ⟨_, _, _, _, _, _, rfl, rfl, rfl⟩⟩⟩⟩⟩⟩⟩⟩⟩)
theorem kb_Style_init_1_high (T : Tx K mg) : ∃ mv : List Value, KBn K T.d_Style_init.fd ["self", "wide", "high", "least_wide", "least_high", "most_wide", "most_high", "grow", "shrink", "rims", "stand"] 1 ["high"] (fun us ws => pick1 0 us ++ pick1 0 mv ++ pick1 0 ws ++ pick1 1 mv ++ pick1 2 mv ++ pick1 3 mv ++ pick1 4 mv ++ pick1 5 mv ++ pick1 6 mv ++ pick1 7 mv ++ pick1 8 mv) (fun vs zs => pick1 0 vs ++ pick1 0 (([("wide", .non), ("least_wide", .non), ("least_high", .non), ("most_wide", .non), ("most_high", .non), ("grow", .int 0), ("shrink", .int 1), ("rims", .ref T.U_NO_RIMS), ("stand", .non)] : List (Str × V)).map (·.2)) ++ pick1 0 zs ++ pick1 1 (([("wide", .non), ("least_wide", .non), ("least_high", .non), ("most_wide", .non), ("most_high", .non), ("grow", .int 0), ("shrink", .int 1), ("rims", .ref T.U_NO_RIMS), ("stand", .non)] : List (Str × V)).map (·.2)) ++ pick1 2 (([("wide", .non), ("least_wide", .non), ("least_high", .non), ("most_wide", .non), ("most_high", .non), ("grow", .int 0), ("shrink", .int 1), ("rims", .ref T.U_NO_RIMS), ("stand", .non)] : List (Str × V)).map (·.2)) ++ pick1 3 (([("wide", .non), ("least_wide", .non), ("least_high", .non), ("most_wide", .non), ("most_high", .non), ("grow", .int 0), ("shrink", .int 1), ("rims", .ref T.U_NO_RIMS), ("stand", .non)] : List (Str × V)).map (·.2)) ++ pick1 4 (([("wide", .non), ("least_wide", .non), ("least_high", .non), ("most_wide", .non), ("most_high", .non), ("grow", .int 0), ("shrink", .int 1), ("rims", .ref T.U_NO_RIMS), ("stand", .non)] : List (Str × V)).map (·.2)) ++ pick1 5 (([("wide", .non), ("least_wide", .non), ("least_high", .non), ("most_wide", .non), ("most_high", .non), ("grow", .int 0), ("shrink", .int 1), ("rims", .ref T.U_NO_RIMS), ("stand", .non)] : List (Str × V)).map (·.2)) ++ pick1 6 (([("wide", .non), ("least_wide", .non), ("least_high", .non), ("most_wide", .non), ("most_high", .non), ("grow", .int 0), ("shrink", .int 1), ("rims", .ref T.U_NO_RIMS), ("stand", .non)] : List (Str × V)).map (·.2)) ++ pick1 7 (([("wide", .non), ("least_wide", .non), ("least_high", .non), ("most_wide", .non), ("most_high", .non), ("grow", .int 0), ("shrink", .int 1), ("rims", .ref T.U_NO_RIMS), ("stand", .non)] : List (Str × V)).map (·.2)) ++ pick1 8 (([("wide", .non), ("least_wide", .non), ("least_high", .non), ("most_wide", .non), ("most_high", .non), ("grow", .int 0), ("shrink", .int 1), ("rims", .ref T.U_NO_RIMS), ("stand", .non)] : List (Str × V)).map (·.2))) := by
  exact T.d_Style_init.FD.kbinds0 1 ["high"] [("wide", .non), ("least_wide", .non), ("least_high", .non), ("most_wide", .non), ("most_high", .non), ("grow", .int 0), ("shrink", .int 1), ("rims", .ref T.U_NO_RIMS), ("stand", .non)] (fun us mv ws => pick1 0 us ++ pick1 0 mv ++ pick1 0 ws ++ pick1 1 mv ++ pick1 2 mv ++ pick1 3 mv ++ pick1 4 mv ++ pick1 5 mv ++ pick1 6 mv ++ pick1 7 mv ++ pick1 8 mv) (by intro z; cases z) (fun q hq => List.Sublist.subset (show List.Sublist _ _ from (.cons₂ _ (.cons _ (.cons₂ _ (.cons₂ _ (.cons₂ _ (.cons₂ _ (.cons₂ _ (.cons₂ _ (.cons₂ _ (.cons₂ _ .slnil))))))))))) hq) (fun r1 rm r2 => (((((((((((vals_pick r1 0).append (vals_pick rm 0)).append (vals_pick r2 0)).append (vals_pick rm 1)).append (vals_pick rm 2)).append (vals_pick rm 3)).append (vals_pick rm 4)).append (vals_pick rm 5)).append (vals_pick rm 6)).append (vals_pick rm 7)).append (vals_pick rm 8)))
    (fun D doc pm an cdv ct us mv ws h1 hm h2 => match us, mv, ws, h1, hm, h2 with | [_], [_, _, _, _, _, _, _, _, _], [_], _, _, _ => ⟨_, _, _, _, _, _, rfl, rfl, ⟨_, _, _, _, _, _, rfl, rfl, ⟨_, _, _, _, _, _, rfl, rfl, ⟨_, _, _, _, _, _, rfl, rfl, ⟨_, _, _, _, _, _, rfl, rfl, ⟨_, _, _, _, _, _, rfl, rfl, ⟨_, _, _, _, _, _, rfl, rfl, ⟨_, _, _, _, _, _, rfl, rfl, ⟨_, _, _, _, _, _, rfl, rfl, rfl⟩⟩⟩⟩⟩⟩⟩⟩⟩)
theorem kb_Style_init_1_wide (T : Tx K mg) : ∃ mv : List Value, KBn K T.d_Style_init.fd ["self", "wide", "high", "least_wide", "least_high", "most_wide", "most_high", "grow", "shrink", "rims", "stand"] 1 ["wide"] (fun us ws => pick1 0 us ++ pick1 0 ws ++ pick1 0 mv ++ pick1 1 mv ++ pick1 2 mv ++ pick1 3 mv ++ pick1 4 mv ++ pick1 5 mv ++ pick1 6 mv ++ pick1 7 mv ++ pick1 8 mv) (fun vs zs => pick1 0 vs ++ pick1 0 zs ++ pick1 0 (([("high", .non), ("least_wide", .non), ("least_high", .non), ("most_wide", .non), ("most_high", .non), ("grow", .int 0), ("shrink", .int 1), ("rims", .ref T.U_NO_RIMS), ("stand", .non)] : List (Str × V)).map (·.2)) ++ pick1 1 (([("high", .non), ("least_wide", .non), ("least_high", .non), ("most_wide", .non), ("most_high", .non), ("grow", .int 0), ("shrink", .int 1), ("rims", .ref T.U_NO_RIMS), ("stand", .non)] : List (Str × V)).map (·.2)) ++ pick1 2 (([("high", .non), ("least_wide", .non), ("least_high", .non), ("most_wide", .non), ("most_high", .non), ("grow", .int 0), ("shrink", .int 1), ("rims", .ref T.U_NO_RIMS), ("stand", .non)] : List (Str × V)).map (·.2)) ++ pick1 3 (([("high", .non), ("least_wide", .non), ("least_high", .non), ("most_wide", .non), ("most_high", .non), ("grow", .int 0), ("shrink", .int 1), ("rims", .ref T.U_NO_RIMS), ("stand", .non)] : List (Str × V)).map (·.2)) ++ pick1 4 (([("high", .non), ("least_wide", .non), ("least_high", .non), ("most_wide", .non), ("most_high", .non), ("grow", .int 0), ("shrink", .int 1), ("rims", .ref T.U_NO_RIMS), ("stand", .non)] : List (Str × V)).map (·.2)) ++ pick1 5 (([("high", .non), ("least_wide", .non), ("least_high", .non), ("most_wide", .non), ("most_high", .non), ("grow", .int 0), ("shrink", .int 1), ("rims", .ref T.U_NO_RIMS), ("stand", .non)] : List (Str × V)).map (·.2)) ++ pick1 6 (([("high", .non), ("least_wide", .non), ("least_high", .non), ("most_wide", .non), ("most_high", .non), ("grow", .int 0), ("shrink", .int 1), ("rims", .ref T.U_NO_RIMS), ("stand", .non)] : List (Str × V)).map (·.2)) ++ pick1 7 (([("high", .non), ("least_wide", .non), ("least_high", .non), ("most_wide", .non), ("most_high", .non), ("grow", .int 0), ("shrink", .int 1), ("rims", .ref T.U_NO_RIMS), ("stand", .non)] : List (Str × V)).map (·.2)) ++ pick1 8 (([("high", .non), ("least_wide", .non), ("least_high", .non), ("most_wide", .non), ("most_high", .non), ("grow", .int 0), ("shrink", .int 1), ("rims", .ref T.U_NO_RIMS), ("stand", .non)] : List (Str × V)).map (·.2))) := by
  exact T.d_Style_init.FD.kbinds0 1 ["wide"] [("high", .non), ("least_wide", .non), ("least_high", .non), ("most_wide", .non), ("most_high", .non), ("grow", .int 0), ("shrink", .int 1), ("rims", .ref T.U_NO_RIMS), ("stand", .non)] (fun us mv ws => pick1 0 us ++ pick1 0 ws ++ pick1 0 mv ++ pick1 1 mv ++ pick1 2 mv ++ pick1 3 mv ++ pick1 4 mv ++ pick1 5 mv ++ pick1 6 mv ++ pick1 7 mv ++ pick1 8 mv) (by intro z; cases z) (fun q hq => List.Sublist.subset (show List.Sublist _ _ from (.cons _ (.cons₂ _ (.cons₂ _ (.cons₂ _ (.cons₂ _ (.cons₂ _ (.cons₂ _ (.cons₂ _ (.cons₂ _ (.cons₂ _ .slnil))))))))))) hq) (fun r1 rm r2 => (((((((((((vals_pick r1 0).append (vals_pick r2 0)).append (vals_pick rm 0)).append (vals_pick rm 1)).append (vals_pick rm 2)).append (vals_pick rm 3)).append (vals_pick rm 4)).append (vals_pick rm 5)).append (vals_pick rm 6)).append (vals_pick rm 7)).append (vals_pick rm 8)))
    (fun D doc pm an cdv ct us mv ws h1 hm h2 => match us, mv, ws, h1, hm, h2 with | [_], [_, _, _, _, _, _, _, _, _], [_], _, _, _ => ⟨_, _, _, _, _, _, rfl, rfl, ⟨_, _, _, _, _, _, rfl, rfl, ⟨_, _, _, _, _, _, rfl, rfl, ⟨_, _, _, _, _, _, rfl, rfl, ⟨_, _, _, _, _, _, rfl, rfl, ⟨_, _, _, _, _, _, rfl, rfl, ⟨_, _, _, _, _, _, rfl, rfl, ⟨_, _, _, _, _, _, rfl, rfl, ⟨_, _, _, _, _, _, rfl, rfl, rfl⟩⟩⟩⟩⟩⟩⟩⟩⟩)
theorem ok_Style_init (T : Tx K mg) : FnOk P w K mg base (L2N.CX P w) 4 T.d_Style_init.f T.d_Style_init.fd ["self", "wide", "high", "least_wide", "least_high", "most_wide", "most_high", "grow", "shrink", "rims", "stand"] (sp_Style_b K T.c_Style.C T.e_NoStyle.C) := by
  refine T.d_Style_init.F.okN sc_Style_init (fun vs H Q E h => ?_) (fun cdv A outer s H vs Q E hr h => ?_)
  · obtain ⟨x, dx, w, h, lw, lh, mw, mh, g, s, r, st, b0, b1, b2, b3, b4, b5, b6, b7, b8, b9, rfl, _⟩ := h
    rfl
  · obtain ⟨x, dx, w, h, lw, lh, mw, mh, g, s, r, st, b0, b1, b2, b3, b4, b5, b6, b7, b8, b9, rfl, hx, h0, h1, h2, h3, h4, h5, h6, h7, h8, h9, k⟩ := h
    refine ⟨_, (pss_cons (ps_set (i := 11) sc_Style_init.nd rfl (Or.inl rfl) (pe_and (pe_call (ok_is_size T) (hr.mono (by decide)) (by rfl) T.d_is_size.g T.d_is_size.F.kp T.d_is_size.b .nil pass0 (pa_cons (pv 1) pa_nil)) (pe_one (pe_call (ok_is_size T) (hr.mono (by decide)) (by rfl) T.d_is_size.g T.d_is_size.F.kp T.d_is_size.b .nil pass0 (pa_cons (pv 2) pa_nil)))))
      (pss_cons (ps_set (i := 12) sc_Style_init.nd rfl (Or.inl rfl) (pe_callB (cr_allK (K := K) rfl rfl) (by rfl) T.b_all (by decide +kernel) (pa_cons (pe_lc (own := [("one", 13)]) (g := gName 13) (by rfl) sc_Style_init.nd (pi_tupK (K := K) rfl (pe_tupA (pa_cons (pv 3) (pa_cons (pv 4) (pa_cons (pv 5) (pa_cons (pv 6) pa_nil)))))) (blkOk_by (own := [("one", 13)]) (N := N_Style_init) (sc := defScope s_Style_init) (by decide +kernel)) (fun _ _ _ _ _ => (pg_name (i := 13) sc_Style_init.nd rfl (Or.inl rfl))) (fun _ _ _ _ _ => pts_nil) (fun _ _ _ _ _ => (pe_call (ok_is_bound T) (hr.mono (by decide)) (by rfl) T.d_is_bound.g T.d_is_bound.F.kp T.d_is_bound.b .nil pass0 (pa_cons (pv 13) pa_nil)))) pa_nil)))
      (pss_cons (ps_if (PW.pt (pw_or (pt_not (pt_val (pv 11))) (pw_or1 (pt_not (pt_val (pv 12))))))
      (pss_one (L2N.ps_raise rfl (L2N.takes_of rfl rfl rfl rfl) (L2N.pmk_own PySem.F.excBase_ValueError T.e_NoStyle.x T.e_NoStyle.g T.e_NoStyle.k (raises_own T.e_NoStyle.b T.e_NoStyle.t) rfl)))
      pss_nil)
      (pss_cons (ps_if (PW.pt (pw_or (pt_not (pt_val (pe_call (ok_is_count T) (hr.mono (by decide)) (by rfl) T.d_is_count.g T.d_is_count.F.kp T.d_is_count.b .nil pass0 (pa_cons (pv 7) pa_nil)))) (pw_or (pt_not (pt_val (pe_call (ok_is_count T) (hr.mono (by decide)) (by rfl) T.d_is_count.g T.d_is_count.F.kp T.d_is_count.b .nil pass0 (pa_cons (pv 8) pa_nil)))) (pw_or1 (pt_not (pt_val (pe_call (ok_is_rims T) (hr.mono (by decide)) (by rfl) T.d_is_rims.g T.d_is_rims.F.kp T.d_is_rims.b .nil pass0 (pa_cons (pv 9) pa_nil))))))))
      (pss_one (L2N.ps_raise rfl (L2N.takes_of rfl rfl rfl rfl) (L2N.pmk_own PySem.F.excBase_ValueError T.e_NoStyle.x T.e_NoStyle.g T.e_NoStyle.k (raises_own T.e_NoStyle.b T.e_NoStyle.t) rfl)))
      pss_nil)
      (pss_cons (ps_if (PW.pt (pw_and (pt_cmpR op_notN (pv 10) pe_non (nomark _)) (pw_and1 (pt_cmpR (op_notIn7 (K := K) hr.units rfl) (pv 10) (pe_glob (v := .ref T.U_STANDS) (by rfl) T.v_STANDS rfl) (by rfl)))))
      (pss_one (L2N.ps_raise rfl (L2N.takes_of rfl rfl rfl rfl) (L2N.pmk_own PySem.F.excBase_ValueError T.e_NoStyle.x T.e_NoStyle.g T.e_NoStyle.k (raises_own T.e_NoStyle.b T.e_NoStyle.t) rfl)))
      pss_nil)
      (pss_cons (ps_asg (pe_tupA (pa_cons (pv 1) (pa_cons (pv 2) pa_nil))) (pg_tup (by rfl) (pgs_cons (pg_fldK (K := K) rfl (pv 0)) (pgs_cons (pg_fldK (K := K) rfl (pv 0)) pgs_nil))))
      (pss_cons (ps_asg (pe_tupA (pa_cons (pv 3) (pa_cons (pv 4) pa_nil))) (pg_tup (by rfl) (pgs_cons (pg_fldK (K := K) rfl (pv 0)) (pgs_cons (pg_fldK (K := K) rfl (pv 0)) pgs_nil))))
      (pss_cons (ps_asg (pe_tupA (pa_cons (pv 5) (pa_cons (pv 6) pa_nil))) (pg_tup (by rfl) (pgs_cons (pg_fldK (K := K) rfl (pv 0)) (pgs_cons (pg_fldK (K := K) rfl (pv 0)) pgs_nil))))
      (pss_cons (ps_asg (pe_tupA (pa_cons (pv 7) (pa_cons (pv 8) pa_nil))) (pg_tup (by rfl) (pgs_cons (pg_fldK (K := K) rfl (pv 0)) (pgs_cons (pg_fldK (K := K) rfl (pv 0)) pgs_nil))))
      (pss_one (ps_asg (pe_tupA (pa_cons (pv 9) (pa_cons (pv 10) pa_nil))) (pg_tup (by rfl) (pgs_cons (pg_fldK (K := K) rfl (pv 0)) (pgs_cons (pg_fldK (K := K) rfl (pv 0)) pgs_nil)))))))))))))), ?_⟩
    refine seq_key (M := fun σ H' => ∃ v1 v2 : Option V, σ = [some (.ref x), some w, some h, some lw, some lh, some mw, some mh, some g, some s, some r, some st, some (.bl (b0 && b1)), v1, v2] ∧ Same H H') ?_ (fun NN hNN => ?_)
    rotate_left
    · tm_at "rzs"
      intro H1 s1
      cases b0 with
      | false =>
        tm_at "rzs"
        exact hNN _ _ ⟨_, _, rfl, s1⟩
      | true =>
        tm_at "rzs"
        refine ⟨_, b1, rfl, h1.keep (Same.keep s1), fun H2 s2 => ?_⟩
        exact hNN _ _ ⟨_, _, rfl, s1.trans s2⟩
    rintro σ H1 ⟨v1, v2, rfl, s1⟩
    refine seq_key (M := fun σ H' => ∃ v2 : Option V, σ = [some (.ref x), some w, some h, some lw, some lh, some mw, some mh, some g, some s, some r, some st, some (.bl (b0 && b1)), some (.bl (b2 && b3 && b4 && b5)), v2] ∧ Same H H') ?_ (fun NN hNN => ?_)
    rotate_left
    · tm_at "rzs"
      intro p3 H3 f3 s3 g3
      have S3 := s1.trans s3
      refine ⟨p3, rfl, ⟨_, sqT g3⟩, fun D hD => lcTy (K := K) (xs := [lw, lh, mw, mh]) (fun i => V.bl ([b2, b3, b4, b5].getD i true)) hD (sqT g3) (Nat.le_of_ble_eq_true rfl) (fun i y H4 Kt Kf hy s4 kt => ?_) (fun H4 s4 g4 => ?_)⟩
      · have S4 := Same.keep (S3.trans s4)
        obtain ⟨t, ht, e⟩ : ∃ t, Ty9 K H4 y t ∧ (decide (y = .non) || isN y) = [b2, b3, b4, b5].getD i true := by
          match i, hy with
          | 0, hy => cases hy; obtain ⟨t, h, e⟩ := h2.keep S4; exact ⟨t, h, e.symm⟩
          | 1, hy => cases hy; obtain ⟨t, h, e⟩ := h3.keep S4; exact ⟨t, h, e.symm⟩
          | 2, hy => cases hy; obtain ⟨t, h, e⟩ := h4.keep S4; exact ⟨t, h, e.symm⟩
          | 3, hy => cases hy; obtain ⟨t, h, e⟩ := h5.keep S4; exact ⟨t, h, e.symm⟩
          | n + 4, hy => cases hy
        have h8 := ht.t8
        tm_at "rzs"
        rw [e]
        exact kt _ (Same.refl _)
      have g4 : H4 D = some (.lst (([b2, b3, b4, b5] : List Bool).map V.bl)) := g4
      tm_at "rzs"
      refine ⟨D, _, rfl, sqL g4, ?_⟩
      have e : ([b2, b3, b4, b5] : List Bool).all id = (b2 && b3 && b4 && b5) := by
        simp [Bool.and_assoc]
      rw [e]
      exact hNN _ _ ⟨_, rfl, S3.trans s4⟩
    rintro σ H2 ⟨v2, rfl, s2⟩
    have kb := k H2 (Same.but s2)
    have S2 := Same.keep s2
    obtain ⟨t6, y6, e6⟩ := h6.keep S2
    obtain ⟨t7, y7, e7⟩ := h7.keep S2
    have z6 := y6.t8
    have z7 := y7.t8
    have h8' := h8.keep S2
    cases eA : (b0 && b1) with
    | false =>
      tm_at "rzs"
      exact kb.2 (by rw [eA]; simp)
    | true =>
    cases eB : (b2 && b3 && b4 && b5) with
    | false =>
      tm_at "rzs"
      exact kb.2 (by rw [eA, eB]; simp)
    | true =>
    refine seq_key (M := fun σ H' => σ = [some (.ref x), some w, some h, some lw, some lh, some mw, some mh, some g, some s, some r, some st, some (.bl true), some (.bl true), v2] ∧ H' = H2) ?_ (fun NN hNN => ?_)
    rotate_left
    · tm_at "rzs"
      exact hNN _ _ ⟨rfl, rfl⟩
    rintro σ H2 ⟨rfl, rfl⟩
    refine seq_key (M := fun σ H' => σ = [some (.ref x), some w, some h, some lw, some lh, some mw, some mh, some g, some s, some r, some st, some (.bl true), some (.bl true), v2] ∧ Same H2 H' ∧ (b6 && b7 && b8) = true) ?_ (fun NN hNN => ?_)
    rotate_left
    · tm_at "rzs"
      cases eg : isN g with
      | false =>
        tm_at "rzs"
        exact kb.2 (by rw [e6, eg]; simp)
      | true =>
      tm_at "rzs"
      cases es : isN s with
      | false =>
        tm_at "rzs"
        exact kb.2 (by rw [e7, es]; simp)
      | true =>
      tm_at "rzs"
      intro H3 s3
      cases b8 with
      | false =>
        tm_at "rzs"
        exact (k H3 (Same.but (s2.trans s3))).2 (by simp)
      | true =>
        tm_at "rzs"
        exact hNN _ _ ⟨rfl, s3, by rw [e6, e7, eg, es]; rfl⟩
    rintro σ H3 ⟨rfl, s3, eC⟩
    have S3 := s2.trans s3
    obtain ⟨t9, y9, n9, e9⟩ := h9.keep (Same.keep S3)
    have kb3 := k H3 (Same.but S3)
    refine seq_key (M := fun σ H' => σ = [some (.ref x), some w, some h, some lw, some lh, some mw, some mh, some g, some s, some r, some st, some (.bl true), some (.bl true), v2] ∧ H' = H3 ∧ b9 = true) ?_ (fun NN hNN => ?_)
    rotate_left
    · tm_at "rzs"
      by_cases en : st = .non
      · subst en
        tm_at "rzs"
        exact hNN _ _ ⟨rfl, rfl, e9⟩
      · refine iteT' (by rw [decide_eq_false en]; rfl) ?_
        tm_at "rzs"
        refine ⟨_, standsL, _, rfl, T.t_STANDS _, y9.t7 n9, ?_⟩
        rw [if_pos rfl]
        cases ei : isSt standsL st with
        | false =>
          tm_at "rzs"
          exact kb3.2 (by rw [e9, ei, decide_eq_false en]; simp)
        | true =>
          tm_at "rzs"
          exact hNN _ _ ⟨rfl, rfl, by rw [e9, ei, Bool.or_true]⟩
    rintro σ H5 ⟨rfl, rfl, eD⟩
    have hx5 := S3 _ _ hx
    tm_at "rzs"
    intro p6 H6 f6 s6 g6
    refine ⟨p6, _, rfl, sqT g6, rfl, ?_⟩
    refine ⟨_, _, rfl, ?_⟩
    refine ⟨_, rfl, x, _, dx, _, rfl, s6 _ _ hx5, T.c_Style.cls, T.n_Style_wide, Nat.lt_of_succ_le (Nat.le_of_ble_eq_true rfl), ?_⟩
    refine ⟨_, _, rfl, ?_⟩
    refine ⟨_, rfl, x, _, dx, _, rfl, upd_same, T.c_Style.cls, T.n_Style_high, Nat.lt_of_succ_le (Nat.le_of_ble_eq_true rfl), ?_⟩
    refine ⟨rfl, ?_⟩
    tm_at "rzs"
    intro p7 H7 f7 s7 g7
    refine ⟨p7, _, rfl, sqT g7, rfl, ?_⟩
    refine ⟨_, _, rfl, ?_⟩
    refine ⟨_, rfl, x, _, dx, _, rfl, s7 _ _ upd_same, T.c_Style.cls, T.n_Style_least_wide, Nat.lt_of_succ_le (Nat.le_of_ble_eq_true rfl), ?_⟩
    refine ⟨_, _, rfl, ?_⟩
    refine ⟨_, rfl, x, _, dx, _, rfl, upd_same, T.c_Style.cls, T.n_Style_least_high, Nat.lt_of_succ_le (Nat.le_of_ble_eq_true rfl), ?_⟩
    refine ⟨rfl, ?_⟩
    tm_at "rzs"
    intro p8 H8 f8 s8 g8
    refine ⟨p8, _, rfl, sqT g8, rfl, ?_⟩
    refine ⟨_, _, rfl, ?_⟩
    refine ⟨_, rfl, x, _, dx, _, rfl, s8 _ _ upd_same, T.c_Style.cls, T.n_Style_most_wide, Nat.lt_of_succ_le (Nat.le_of_ble_eq_true rfl), ?_⟩
    refine ⟨_, _, rfl, ?_⟩
    refine ⟨_, rfl, x, _, dx, _, rfl, upd_same, T.c_Style.cls, T.n_Style_most_high, Nat.lt_of_succ_le (Nat.le_of_ble_eq_true rfl), ?_⟩
    refine ⟨rfl, ?_⟩
    tm_at "rzs"
    intro p9 H9 f9 s9 g9
    refine ⟨p9, _, rfl, sqT g9, rfl, ?_⟩
    refine ⟨_, _, rfl, ?_⟩
    refine ⟨_, rfl, x, _, dx, _, rfl, s9 _ _ upd_same, T.c_Style.cls, T.n_Style_grow, Nat.lt_of_succ_le (Nat.le_of_ble_eq_true rfl), ?_⟩
    refine ⟨_, _, rfl, ?_⟩
    refine ⟨_, rfl, x, _, dx, _, rfl, upd_same, T.c_Style.cls, T.n_Style_shrink, Nat.lt_of_succ_le (Nat.le_of_ble_eq_true rfl), ?_⟩
    refine ⟨rfl, ?_⟩
    tm_at "rzs"
    intro p10 H10 f10 s10 g10
    refine ⟨p10, _, rfl, sqT g10, rfl, ?_⟩
    refine ⟨_, _, rfl, ?_⟩
    refine ⟨_, rfl, x, _, dx, _, rfl, s10 _ _ upd_same, T.c_Style.cls, T.n_Style_rims, Nat.lt_of_succ_le (Nat.le_of_ble_eq_true rfl), ?_⟩
    refine ⟨_, _, rfl, ?_⟩
    refine ⟨_, rfl, x, _, dx, _, rfl, upd_same, T.c_Style.cls, T.n_Style_stand, Nat.lt_of_succ_le (Nat.le_of_ble_eq_true rfl), ?_⟩
    refine ⟨rfl, ?_⟩
    refine (k _ (by tm_at "bt")).1 (by rw [eA, eB, eC, eD]; rfl) ?_
    rw [upd_same]
    exact congrArg (fun z => some (HO.ins T.c_Style.C dx z)) (styF_put w h lw lh mw mh g s r st)
end
end My
namespace My
open PySem PySem.Spec PyProof.Rows L2
section
variable {P : Program} {w : World} {K : PySem.W.Frag} {mg : Str → Option Value} {base : Heap}
def sp_told_fields (K : PySem.W.Frag) (C U : Addr) : Sp := fun vs H Q _ => ∃ (x dx : Addr) (ws : List V), vs = [.ref x] ∧ H x = some (.ins C dx (styL ws)) ∧ ws.length = 10 ∧
  ∀ H' (p : Addr) (ps : List V), Same H H' → H' p = some (.tup ps) → ToldAt H' U ws ps → Q (.ref p) H'
theorem ok_told_fields (T : Tx K mg) : FnOk P w K mg base CX0 1 T.d_told_fields.f T.d_told_fields.fd ["style"] (sp_told_fields K T.c_Style.C T.U_NO_RIMS) := by
  refine T.d_told_fields.F.ok sc_told_fields (fun vs H Q E h => ?_) (fun cdv A outer s H vs Q E hr h => ?_)
  · obtain ⟨x, dx, ws, rfl, _⟩ := h
    rfl
  · obtain ⟨x, dx, ws, rfl, hx, hl, k⟩ := h
    obtain ⟨w0, w1, w2, w3, w4, w5, w6, w7, w8, w9, rfl⟩ := ten hl
    refine ⟨_, (pss_one (ps_ret (pe_tupA (pa_cons (pe_tupA (pa_cons pe_str (pa_cons (pe_fldK (K := K) rfl (pv 0) rfl) (pa_cons pe_non pa_nil)))) (pa_cons (pe_tupA (pa_cons pe_str (pa_cons (pe_fldK (K := K) rfl (pv 0) rfl) (pa_cons pe_non pa_nil)))) (pa_cons (pe_tupA (pa_cons pe_str (pa_cons (pe_fldK (K := K) rfl (pv 0) rfl) (pa_cons pe_non pa_nil)))) (pa_cons (pe_tupA (pa_cons pe_str (pa_cons (pe_fldK (K := K) rfl (pv 0) rfl) (pa_cons pe_non pa_nil)))) (pa_cons (pe_tupA (pa_cons pe_str (pa_cons (pe_fldK (K := K) rfl (pv 0) rfl) (pa_cons pe_non pa_nil)))) (pa_cons (pe_tupA (pa_cons pe_str (pa_cons (pe_fldK (K := K) rfl (pv 0) rfl) (pa_cons pe_non pa_nil)))) (pa_cons (pe_tupA (pa_cons pe_str (pa_cons (pe_fldK (K := K) rfl (pv 0) rfl) (pa_cons pe_int pa_nil)))) (pa_cons (pe_tupA (pa_cons pe_str (pa_cons (pe_fldK (K := K) rfl (pv 0) rfl) (pa_cons pe_int pa_nil)))) (pa_cons (pe_tupA (pa_cons pe_str (pa_cons (pe_fldK (K := K) rfl (pv 0) rfl) (pa_cons (pe_glob (v := .ref T.U_NO_RIMS) (by rfl) T.v_NO_RIMS rfl) pa_nil)))) (pa_cons (pe_tupA (pa_cons pe_str (pa_cons (pe_fldK (K := K) rfl (pv 0) rfl) (pa_cons pe_non pa_nil)))) pa_nil))))))))))))), ?_⟩
    tm_at "rzs"
    refine ⟨x, _, dx, _, _, rfl, hx, T.c_Style.cls, T.n_Style_wide, rfl, ?_⟩
    tm_at "rzs"
    intro p0 H0 f0 s0 g0
    have S0 := s0
    tm_at "rzs"
    refine ⟨x, _, dx, _, _, rfl, (S0 _ _ hx), T.c_Style.cls, T.n_Style_high, rfl, ?_⟩
    tm_at "rzs"
    intro p1 H1 f1 s1 g1
    have S1 := S0.trans s1
    tm_at "rzs"
    refine ⟨x, _, dx, _, _, rfl, (S1 _ _ hx), T.c_Style.cls, T.n_Style_least_wide, rfl, ?_⟩
    tm_at "rzs"
    intro p2 H2 f2 s2 g2
    have S2 := S1.trans s2
    tm_at "rzs"
    refine ⟨x, _, dx, _, _, rfl, (S2 _ _ hx), T.c_Style.cls, T.n_Style_least_high, rfl, ?_⟩
    tm_at "rzs"
    intro p3 H3 f3 s3 g3
    have S3 := S2.trans s3
    tm_at "rzs"
    refine ⟨x, _, dx, _, _, rfl, (S3 _ _ hx), T.c_Style.cls, T.n_Style_most_wide, rfl, ?_⟩
    tm_at "rzs"
    intro p4 H4 f4 s4 g4
    have S4 := S3.trans s4
    tm_at "rzs"
    refine ⟨x, _, dx, _, _, rfl, (S4 _ _ hx), T.c_Style.cls, T.n_Style_most_high, rfl, ?_⟩
    tm_at "rzs"
    intro p5 H5 f5 s5 g5
    have S5 := S4.trans s5
    tm_at "rzs"
    refine ⟨x, _, dx, _, _, rfl, (S5 _ _ hx), T.c_Style.cls, T.n_Style_grow, rfl, ?_⟩
    tm_at "rzs"
    intro p6 H6 f6 s6 g6
    have S6 := S5.trans s6
    tm_at "rzs"
    refine ⟨x, _, dx, _, _, rfl, (S6 _ _ hx), T.c_Style.cls, T.n_Style_shrink, rfl, ?_⟩
    tm_at "rzs"
    intro p7 H7 f7 s7 g7
    have S7 := S6.trans s7
    tm_at "rzs"
    refine ⟨x, _, dx, _, _, rfl, (S7 _ _ hx), T.c_Style.cls, T.n_Style_rims, rfl, ?_⟩
    tm_at "rzs"
    intro p8 H8 f8 s8 g8
    have S8 := S7.trans s8
    tm_at "rzs"
    refine ⟨x, _, dx, _, _, rfl, (S8 _ _ hx), T.c_Style.cls, T.n_Style_stand, rfl, ?_⟩
    tm_at "rzs"
    intro p9 H9 f9 s9 g9
    have S9 := S8.trans s9
    tm_at "rzs"
    intro q H10 f10 s10 g10
    have R9 := s10
    have R8 := s9.trans R9
    have R7 := s8.trans R8
    have R6 := s7.trans R7
    have R5 := s6.trans R6
    have R4 := s5.trans R5
    have R3 := s4.trans R4
    have R2 := s3.trans R3
    have R1 := s2.trans R2
    have R0 := s1.trans R1
    refine k H10 q _ (S9.trans s10) g10 ⟨rfl, fun i v e => ?_⟩
    match i, e with
    | 0, e => cases e; exact ⟨p0, _, _, _, rfl, rfl, rfl, rfl, R0 _ _ g0⟩
    | 1, e => cases e; exact ⟨p1, _, _, _, rfl, rfl, rfl, rfl, R1 _ _ g1⟩
    | 2, e => cases e; exact ⟨p2, _, _, _, rfl, rfl, rfl, rfl, R2 _ _ g2⟩
    | 3, e => cases e; exact ⟨p3, _, _, _, rfl, rfl, rfl, rfl, R3 _ _ g3⟩
    | 4, e => cases e; exact ⟨p4, _, _, _, rfl, rfl, rfl, rfl, R4 _ _ g4⟩
    | 5, e => cases e; exact ⟨p5, _, _, _, rfl, rfl, rfl, rfl, R5 _ _ g5⟩
    | 6, e => cases e; exact ⟨p6, _, _, _, rfl, rfl, rfl, rfl, R6 _ _ g6⟩
    | 7, e => cases e; exact ⟨p7, _, _, _, rfl, rfl, rfl, rfl, R7 _ _ g7⟩
    | 8, e => cases e; exact ⟨p8, _, _, _, rfl, rfl, rfl, rfl, R8 _ _ g8⟩
    | 9, e => cases e; exact ⟨p9, _, _, _, rfl, rfl, rfl, rfl, R9 _ _ g9⟩
    | n + 10, e => cases e
end
end My
namespace My
open PySem PySem.Spec PyProof.Rows L2
section
variable {P : Program} {w : World} {K : PySem.W.Frag} {mg : Str → Option Value} {base : Heap}
def sp_Style_eq (K : PySem.W.Frag) (C U : Addr) : Sp := fun vs H Q _ => ∃ (x y dx dy : Addr) (ws : List V), vs = [.ref x, .ref y] ∧ H x = some (.ins C dx (styL ws)) ∧ H y = some (.ins C dy (styL ws)) ∧ OkL K H ws ∧
  ∀ H', Same H H' → Q (.bl true) H'
theorem ok_Style_eq (T : Tx K mg) : FnOk P w K mg base CX0 6 T.d_Style_eq.f T.d_Style_eq.fd ["self", "other"] (sp_Style_eq K T.c_Style.C T.U_NO_RIMS) := by
  refine T.d_Style_eq.F.ok sc_Style_eq (fun vs H Q E h => ?_) (fun cdv A outer s H vs Q E hr h => ?_)
  · obtain ⟨x, y, dx, dy, ws, rfl, _⟩ := h
    rfl
  · obtain ⟨x, y, dx, dy, ws, rfl, hx, hy, ok, k⟩ := h
    refine ⟨_, (pss_one (ps_ret (pe_and (pe_callB (call_isiK (K := K) rfl) (by rfl) T.b_isinstance (by decide +kernel) (pa_cons (pv 1) (pa_cons (pe_glob (v := .ref T.c_Style.C) (by rfl) T.c_Style.g rfl) pa_nil))) (pe_one (pe_cmpR (op_eqDK (K := K) hr.units rfl) (pe_call (ok_told_fields T) (hr.mono (by decide)) (by rfl) T.d_told_fields.g T.d_told_fields.F.kp T.d_told_fields.b .nil pass0 (pa_cons (pv 0) pa_nil)) (pe_call (ok_told_fields T) (hr.mono (by decide)) (by rfl) T.d_told_fields.g T.d_told_fields.F.kp T.d_told_fields.b .nil pass0 (pa_cons (pv 1) pa_nil)) (nomark _)))))), ?_⟩
    tm_at "rzs"
    refine ⟨_, _, _, _, _, rfl, .own T.c_Style.C, .base (.ins hy T.c_Style.cls T.wc T.wg T.wt T.wm), kit_own T.k_own T.k_own T.k_type T.k_dict, ?_⟩
    tm_at "rzs"
    obtain ⟨ds, sh, cl, dp⟩ := told_dp (U := T.U_NO_RIMS) ok T.t_NO_RIMS
    refine ⟨x, dx, ws, rfl, hx, ok.1, fun H1 p ps s1 gp tp => ?_⟩
    tm_at "rzs"
    refine ⟨y, dy, ws, rfl, s1 _ _ hy, ok.1, fun H2 q qs s2 gq tq => ?_⟩
    refine ⟨.tuple ds, .tuple ds, dp H2 ps p (s1.trans s2) (s2 _ _ gp) (tp.same s2), dp H2 qs q (s1.trans s2) gq tq, sh, sh, ?_⟩
    rw [SeqAt.eqv_refl _ cl]
    exact k H2 (s1.trans s2)
end
end My
namespace My
open PySem PySem.Spec PyProof.Rows L2
section
variable {P : Program} {w : World} {K : PySem.W.Frag} {mg : Str → Option Value} {base : Heap}
def sp_w_cell_at (K : PySem.W.Frag) : Sp := fun vs H Q _ => ∃ (a : Addr) (ns : List Int) (k : Nat), vs = [.ref a, .int (k : Int)] ∧ SqL K H a (ns.map V.int) ∧ ns.length ≤ 63 ∧ ∀ z : Int, Q (.int z) H
theorem ok_w_cell_at (T : Tx K mg) : FnOk P w K mg base CX0 1 T.d_w_cell_at.f T.d_w_cell_at.fd ["_law_script", "_law_k"] (sp_w_cell_at K) := by
  refine T.d_w_cell_at.F.ok sc_w_cell_at (fun vs H Q E h => ?_) (fun cdv A outer s H vs Q E hr h => ?_)
  · obtain ⟨x, t, j, rfl, _⟩ := h
    rfl
  · obtain ⟨a, ns, j, rfl, hS, hl, k⟩ := h
    refine ⟨_, (pss_cons (ps_if (pt_cmpR op_lt (pv 1) (pe_callB (call_lenK (K := K) rfl) (by rfl) T.b_len (by decide +kernel) (pa_cons (pv 0) pa_nil)) (nomark _))
      (pss_one (ps_ret (pe_ix (ix_seqK (K := K) rfl) (pv 0) (pv 1) (fun _ _ => rfl))))
      pss_nil)
      (pss_one (ps_ret pe_int))), ?_⟩
    tm_at "rds"
    by_cases e : j < ns.length
    · refine iteT' (decide_eq_true (by rw [List.length_map]; omega)) ?_
      tm_at "rds"
      refine .inl ⟨_, _, _, _, rfl, rfl, hS, atI_nat (v := .int ns[j]) (by rw [List.getElem?_map, List.getElem?_eq_getElem e]; rfl), ?_⟩
      exact k _
    · refine iteF' (decide_eq_false (by rw [List.length_map]; omega)) ?_
      tm_at "rzs"
      exact k _
end
end My
namespace My
open PySem PySem.Spec PyProof.Rows L2
section
variable {P : Program} {w : World} {K : PySem.W.Frag} {mg : Str → Option Value} {base : Heap}
def sp_w_mixed : Sp := fun vs H Q _ => ∃ (c k : Int), vs = [.int c, .int k] ∧ ∀ n : Int, 0 ≤ n → Q (.int n) H
theorem ok_w_mixed (T : Tx K mg) : FnOk P w K mg base CX0 1 T.d_w_mixed.f T.d_w_mixed.fd ["_law_cell", "_law_k"] (sp_w_mixed) := by
  refine T.d_w_mixed.F.ok sc_w_mixed (fun vs H Q E h => ?_) (fun cdv A outer s H vs Q E hr h => ?_)
  · obtain ⟨x, t, rfl, _⟩ := h
    rfl
  · obtain ⟨c, j, rfl, k⟩ := h
    refine ⟨_, (pss_cons (ps_set (i := 2) sc_w_mixed.nd rfl (Or.inl rfl) (pe_op op_add (pe_op op_add (pe_op op_add (pe_op op_mod (pv 0) pe_int) (pe_op op_mul (pe_op op_fdivW (pv 0) pe_int) pe_int)) (pe_op op_mul pe_int (pv 1))) pe_int))
      (pss_cons (ps_set (i := 2) sc_w_mixed.nd rfl (Or.inl rfl) (pe_op op_mod (pe_op op_mul (pv 2) pe_int) pe_int))
      (pss_cons (ps_set (i := 2) sc_w_mixed.nd rfl (Or.inl rfl) (pe_op op_mod (pe_op op_mul (pv 2) (pe_op op_add (pe_op op_add (pe_op op_fdivW (pv 2) pe_int) pe_int) (pv 1))) pe_int))
      (pss_one (ps_ret (pe_op op_mod (pe_op op_mul (pv 2) (pe_op op_add (pe_op op_fdivW (pv 2) pe_int) pe_int)) pe_int)))))), ?_⟩
    tm_at "rds"
    refine k _ ?_
    exact Int.emod_nonneg _ (by decide)
end
end My
namespace My
open PySem PySem.Spec PyProof.Rows L2
section
variable {P : Program} {w : World} {K : PySem.W.Frag} {mg : Str → Option Value} {base : Heap}
def sp_w_source : Sp := fun vs H Q _ => ∃ (c : Int), vs = [.int c] ∧ New H (src (c, c, 0)) Q
theorem ok_w_source (T : Tx K mg) : FnOk P w K mg base CX0 1 T.d_w_source.f T.d_w_source.fd ["_law_cell"] (sp_w_source) := by
  refine T.d_w_source.F.ok sc_w_source (fun vs H Q E h => ?_) (fun cdv A outer s H vs Q E hr h => ?_)
  · obtain ⟨x, rfl, _⟩ := h
    rfl
  · obtain ⟨c, rfl, k⟩ := h
    refine ⟨_, (pss_one (ps_ret (pe_lstA (pa_cons (pv 0) (pa_cons (pv 0) (pa_cons pe_int pa_nil)))))), ?_⟩
    refine ⟨_, rfl, _, rfl, (by show 3 ≤ sizeLine; decide), k⟩
end
end My
namespace My
open PySem PySem.Spec PyProof.Rows L2
section
variable {P : Program} {w : World} {K : PySem.W.Frag} {mg : Str → Option Value} {base : Heap}
def sp_w_next : Sp := fun vs H Q _ => ∃ (a : Addr) (m : Int), vs = [.ref a, .int m] ∧ Src H a ∧ 0 < m ∧ m < 2 ^ 64 ∧
  ∀ (n : Int) (H' : Hp), Dr a H H' → 0 ≤ n → n < m → Q (.int n) H'
theorem ok_w_next (T : Tx K mg) : FnOk P w K mg base CX0 2 T.d_w_next.f T.d_w_next.fd ["_law_source_here", "_law_many"] (sp_w_next) := by
  refine T.d_w_next.F.ok sc_w_next (fun vs H Q E h => ?_) (fun cdv A outer s H vs Q E hr h => ?_)
  · obtain ⟨a, m, rfl, _⟩ := h
    rfl
  · obtain ⟨a, m, rfl, ⟨⟨c0, c1, c2⟩, hs⟩, m0, m1, k⟩ := h
    have hL : SqL K H a [.int c0, .int c1, .int c2] := sqL hs
    refine ⟨_, (pss_cons (ps_if (pt_cmpR op_ge (pe_ix (ix_seqK (K := K) rfl) (pv 0) pe_int (fun _ _ => rfl)) (pe_op op_pow pe_int pe_int) (nomark _))
      (pss_cons (ps_set (i := 2) sc_w_next.nd rfl (Or.inl rfl) (pe_op op_mod (pe_ix (ix_seqK (K := K) rfl) (pv 0) pe_int (fun _ _ => rfl)) (pv 1)))
      (pss_cons (ps_asg (pe_op op_fdivW (pe_ix (ix_seqK (K := K) rfl) (pv 0) pe_int (fun _ _ => rfl)) (pv 1)) (pg_sub (pv 0) pe_int set_listA))
      (pss_one (ps_ret (pv 2)))))
      pss_nil)
      (pss_cons (ps_asg (pe_op op_add (pe_ix (ix_seqK (K := K) rfl) (pv 0) pe_int (fun _ _ => rfl)) pe_int) (pg_sub (pv 0) pe_int set_listA))
      (pss_one (ps_ret (pe_op op_mod (pe_call (ok_w_mixed T) (hr.mono (by decide)) (by rfl) T.d_w_mixed.g T.d_w_mixed.F.kp T.d_w_mixed.b .nil pass0 (pa_cons (pe_ix (ix_seqK (K := K) rfl) (pv 0) pe_int (fun _ _ => rfl)) (pa_cons (pe_ix (ix_seqK (K := K) rfl) (pv 0) pe_int (fun _ _ => rfl)) pa_nil))) (pv 1)))))), ?_⟩
    refine ⟨_, rfl, .inl ⟨_, _, _, _, rfl, rfl, hL, atI_nat (j := 0) rfl, _, _, rfl, rfl, ⟨by decide, by decide, by decide⟩, _, _, rfl, rfl, _, rfl, ite2 (fun e => ?_) (fun e => ?_)⟩⟩
    · refine ⟨_, rfl, .inl ⟨_, _, _, _, rfl, rfl, hL, atI_nat (j := 0) rfl, ?_⟩⟩
      tm_at "rds"
      refine .inl ⟨_, _, _, _, rfl, rfl, hL, atI_nat (j := 0) rfl, ?_⟩
      tm_at "rds"
      refine ⟨_, _, _, _, rfl, rfl, hs, rfl, fun H1 B1 g1 => ?_⟩
      tm_at "rds"
      refine k _ _ ⟨⟨(c0 / m, c1, c2), g1⟩, B1⟩ ?_ ?_
      · exact Int.emod_nonneg _ (by omega)
      · exact Int.emod_lt_of_pos _ m0
    · refine ⟨_, rfl, .inl ⟨_, _, _, _, rfl, rfl, hL, atI_nat (j := 2) rfl, ?_⟩⟩
      tm_at "rds"
      refine ⟨_, _, _, _, rfl, rfl, hs, rfl, fun H1 B1 g1 => ?_⟩
      refine ⟨_, rfl, .inl ⟨_, _, _, _, rfl, rfl, sqL g1, atI_nat (j := 1) rfl, ?_⟩⟩
      refine ⟨_, rfl, .inl ⟨_, _, _, _, rfl, rfl, sqL g1, atI_nat (j := 2) rfl, ?_⟩⟩
      refine ⟨_, _, rfl, fun n n0 => ?_⟩
      tm_at "rds"
      refine k _ _ ⟨⟨(c0, c1, c2 + 1), g1⟩, B1⟩ ?_ ?_
      · exact Int.emod_nonneg _ (by omega)
      · exact Int.emod_lt_of_pos _ m0
end
end My
namespace My
open PySem PySem.Spec PyProof.Rows L2
section
variable {P : Program} {w : World} {K : PySem.W.Frag} {mg : Str → Option Value} {base : Heap}
def sp_w_name : Sp := fun vs H Q _ => ∃ (s : Addr) (m : Int), vs = [.ref s, .int m] ∧ Src H s ∧ 0 ≤ m ∧ m ≤ 20 ∧ ∀ (l : List Nat) H', Dr s H H' → (l.length : Int) = m → (∀ c ∈ l, c ∈ lettersL) → Q (.str (sO l)) H'
theorem ok_w_name (T : Tx K mg) : FnOk P w K mg base CX0 3 T.d_w_name.f T.d_w_name.fd ["_law_source_here", "_law_many"] (sp_w_name) := by
  refine T.d_w_name.F.ok sc_w_name (fun vs H Q E h => ?_) (fun cdv A outer s H vs Q E hr h => ?_)
  · obtain ⟨s, m, rfl, _⟩ := h
    rfl
  · obtain ⟨s, m, rfl, hs, m0, m1, k⟩ := h
    refine ⟨_, (pss_cons (ps_set (i := 2) sc_w_name.nd rfl (Or.inl rfl) pe_str)
      (pss_cons (ps_for PassesOwn.never (by rfl) (pi_range1 (by rfl) T.b_range (pa_cons (pv 1) pa_nil)) (pg_name (i := 3) sc_w_name.nd rfl (Or.inl rfl))
      (pss_one (ps_set (i := 2) sc_w_name.nd rfl (Or.inl rfl) (pe_op op_add_str (pv 2) (pe_ix ix_str pe_str (pe_call (ok_w_next T) (hr.mono (by decide)) (by rfl) T.d_w_next.g T.d_w_next.F.kp T.d_w_next.b .nil pass0 (pa_cons (pv 0) (pa_cons pe_int pa_nil))) (fun _ _ => rfl))))))
      (pss_one (ps_ret (pv 2))))), ?_⟩
    tm_at "rzs"
    refine for_range (lo := 0) (n := m.toNat) (fun i σ H' => ∃ (l : List Nat) (v2 : Option V), σ = [some (.ref s), some (.int m), some (.str (sO l)), v2] ∧ Dr s H H' ∧ l.length = i ∧ ∀ c ∈ l, c ∈ lettersL)
      ⟨[], _, by rw [← empty_eq]; rfl, Dr.refl hs, rfl, fun c h => by cases h⟩ ?_ ?_
    · rintro i σ H2 hi ⟨l, v2, rfl, d2, ll, lc⟩
      dsimp only [gName]
      tm_at "rzs"
      intro n3 H3 d3 l3 u3
      obtain ⟨c, hc, mc⟩ := at_some (xs := lettersL) l3 (by rw [show lettersL.length = 26 from by decide +kernel]; exact u3)
      refine ⟨_, _, c, rfl, rfl, Nat.le_of_ble_eq_true rfl, hc, ?_⟩
      refine ⟨_, _, rfl, rfl, by rw [sO_len, sizeLine_eq]; show l.length + 1 ≤ _; omega, ?_⟩
      rw [show (⟨#[c]⟩ : Str) = sO [c] from rfl, sO_append]
      refine ⟨l ++ [c], _, rfl, d2.trans d3, by rw [List.length_append, ll]; rfl, fun d hd => ?_⟩
      rcases List.mem_append.mp hd with h | h
      · exact lc d h
      · rw [List.mem_singleton.mp h]; exact mc
    · rintro σ H2 ⟨l, v2, rfl, d2, ll, lc⟩
      tm_at "rzs"
      exact k l H2 d2 (by omega) lc
end
end My
namespace My
open PySem PySem.Spec PyProof.Rows L2
section
variable {P : Program} {w : World} {K : PySem.W.Frag} {mg : Str → Option Value} {base : Heap}
def sp_w_number : Sp := fun vs H Q _ => ∃ (s : Addr), vs = [.ref s] ∧ Src H s ∧ ∀ (n : Nat) H', Dr s H H' → n < 2 ^ 62 → Q (.int (n : Int)) H'
theorem ok_w_number (T : Tx K mg) : FnOk P w K mg base CX0 3 T.d_w_number.f T.d_w_number.fd ["_law_source_here"] (sp_w_number) := by
  refine T.d_w_number.F.ok sc_w_number (fun vs H Q E h => ?_) (fun cdv A outer s H vs Q E hr h => ?_)
  · obtain ⟨s, rfl, _⟩ := h
    rfl
  · obtain ⟨s, rfl, hs, k⟩ := h
    refine ⟨_, (pss_one (ps_ret (pe_call (ok_w_next T) (hr.mono (by decide)) (by rfl) T.d_w_next.g T.d_w_next.F.kp T.d_w_next.b .nil pass0 (pa_cons (pv 0) (pa_cons (pe_ix (ix_listK (K := K) rfl) (pe_lstA (pa_cons pe_int (pa_cons pe_int (pa_cons (pe_op op_pow pe_int pe_int) pa_nil)))) (pe_call (ok_w_next T) (hr.mono (by decide)) (by rfl) T.d_w_next.g T.d_w_next.F.kp T.d_w_next.b .nil pass0 (pa_cons (pv 0) (pa_cons pe_int pa_nil))) (fun _ _ => rfl)) pa_nil))))), ?_⟩
    tm_at "rzs"
    intro p7 H7 f7 s7 g7
    have np7 : p7 ≠ s := hs.ne f7
    tm_at "rzs"
    intro n8 H8 d8 l8 u8
    obtain ⟨x, hx, far2, rfl, far0, far1⟩ := pick3 (P := InR 1 1000000000001) l8 u8 (a := .int 3) (b := .int 50) (c := .int (10 ^ (12 : Int).toNat)) ⟨_, rfl, by decide, by decide⟩ ⟨_, rfl, by decide, by decide⟩ ⟨_, rfl, by decide, by decide⟩
    refine ⟨_, _, _, _, rfl, rfl, sqL (d8.app np7 g7), hx, ?_⟩
    have d8' : Dr s H H8 := (Dr.of hs s7).trans d8
    tm_at "rzs"
    intro n9 H9 d9 l9 u9
    obtain ⟨m, rfl⟩ := Int.eq_ofNat_of_zero_le l9
    exact k m H9 (d8'.trans d9) (by omega)
end
end My
namespace My
open PySem PySem.Spec PyProof.Rows L2
section
variable {P : Program} {w : World} {K : PySem.W.Frag} {mg : Str → Option Value} {base : Heap}
def sp_w_size : Sp := fun vs H Q _ => ∃ (s : Addr), vs = [.ref s] ∧ Src H s ∧ ∀ (v : V) H', Dr s H H' → SzAt H' v → Q v H'
theorem ok_w_size (T : Tx K mg) : FnOk P w K mg base CX0 4 T.d_w_size.f T.d_w_size.fd ["_law_source_here"] (sp_w_size) := by
  refine T.d_w_size.F.ok sc_w_size (fun vs H Q E h => ?_) (fun cdv A outer s H vs Q E hr h => ?_)
  · obtain ⟨s, rfl, _⟩ := h
    rfl
  · obtain ⟨s, rfl, hs, k⟩ := h
    refine ⟨_, (pss_cons (ps_set (i := 1) sc_w_size.nd rfl (Or.inl rfl) (pe_call (ok_w_next T) (hr.mono (by decide)) (by rfl) T.d_w_next.g T.d_w_next.F.kp T.d_w_next.b .nil pass0 (pa_cons (pv 0) (pa_cons pe_int pa_nil))))
      (pss_cons (ps_if (pt_cmpR op_eq (pv 1) pe_int (nomark _))
      (pss_one (ps_ret (pe_call (ok_w_number T) (hr.mono (by decide)) (by rfl) T.d_w_number.g T.d_w_number.F.kp T.d_w_number.b .nil pass0 (pa_cons (pv 0) pa_nil))))
      pss_nil)
      (pss_cons (ps_if (pt_cmpR op_eq (pv 1) pe_int (nomark _))
      (pss_one (ps_ret (pe_tupA (pa_cons pe_str (pa_cons (pe_call (ok_w_number T) (hr.mono (by decide)) (by rfl) T.d_w_number.g T.d_w_number.F.kp T.d_w_number.b .nil pass0 (pa_cons (pv 0) pa_nil)) pa_nil)))))
      pss_nil)
      (pss_cons (ps_if (pt_cmpR op_eq (pv 1) pe_int (nomark _))
      (pss_cons (ps_set (i := 2) sc_w_size.nd rfl (Or.inl rfl) (pe_call (ok_w_name T) (hr.mono (by decide)) (by rfl) T.d_w_name.g T.d_w_name.F.kp T.d_w_name.b .nil pass0 (pa_cons (pv 0) (pa_cons (pe_op op_add pe_int (pe_call (ok_w_next T) (hr.mono (by decide)) (by rfl) T.d_w_next.g T.d_w_next.F.kp T.d_w_next.b .nil pass0 (pa_cons (pv 0) (pa_cons pe_int pa_nil)))) pa_nil))))
      (pss_one (ps_ret (pe_tupA (pa_cons pe_str (pa_cons (pv 2) (pa_cons (pe_ix (ix_listK (K := K) rfl) (pe_lstA (pa_cons pe_str (pa_cons pe_str pa_nil))) (pe_call (ok_w_next T) (hr.mono (by decide)) (by rfl) T.d_w_next.g T.d_w_next.F.kp T.d_w_next.b .nil pass0 (pa_cons (pv 0) (pa_cons pe_int pa_nil))) (fun _ _ => rfl)) (pa_cons (pe_op op_sub (pe_call (ok_w_number T) (hr.mono (by decide)) (by rfl) T.d_w_number.g T.d_w_number.F.kp T.d_w_number.b .nil pass0 (pa_cons (pv 0) pa_nil)) pe_int) pa_nil))))))))
      pss_nil)
      (pss_one (ps_ret pe_non)))))), ?_⟩
    tm_at "rzs"
    intro n1 H1 d1 l1 u1
    tm_at "rds"
    by_cases e1 : n1 = 1
    · subst e1
      tm_at "rzs"
      intro n H2 d2 u2
      exact k _ _ (d1.trans d2) (.cells n)
    refine iteF' (by rw [int_inj_dec]; exact decide_eq_false e1) ?_
    tm_at "rds"
    by_cases e2 : n1 = 2
    · subst e2
      tm_at "rzs"
      intro n H2 d2 u2
      tm_at "rzs"
      intro p H3 f3 s3 g3
      exact k _ _ ((d1.trans d2).same s3) (.part p n g3)
    refine iteF' (by rw [int_inj_dec]; exact decide_eq_false e2) ?_
    tm_at "rds"
    by_cases e3 : n1 = 3
    · subst e3
      tm_at "rzs"
      intro n2 H2 d2 l2 u2
      tm_at "rzs"
      intro l H5 d5 ll lc
      have hl : NameOk l := ⟨by omega, by omega, lc⟩
      tm_at "rzs"
      intro p6 H6 f6 s6 g6
      have np6 : p6 ≠ s := d5.s.ne f6
      tm_at "rzs"
      intro n7 H7 d7 l7 u7
      obtain ⟨x, hx, sd, rfl, hsd⟩ := pick2 (P := fun v => ∃ z : String, v = sX z ∧ (z = "wide" ∨ z = "tall")) l7 u7 (a := sX "wide") (b := sX "tall") ⟨_, rfl, .inl rfl⟩ ⟨_, rfl, .inr rfl⟩
      refine ⟨_, _, _, _, rfl, rfl, sqL (d7.app np6 g6), hx, ?_⟩
      tm_at "rzs"
      intro n8 H8 d8 u8
      tm_at "rzs"
      intro p9 H9 f9 s9 g9
      exact k _ _ (((((d1.trans d2).trans d5).same s6).trans (d7.trans d8)).same s9) (.tie p9 l sd _ hl hsd g9)
    refine iteF' (by rw [int_inj_dec]; exact decide_eq_false e3) ?_
    tm_at "rzs"
    exact k _ _ d1 .non
end
end My
namespace My
open PySem PySem.Spec PyProof.Rows L2
section
variable {P : Program} {w : World} {K : PySem.W.Frag} {mg : Str → Option Value} {base : Heap}
def sp_w_values (K : PySem.W.Frag) : Sp := fun vs H Q _ => ∃ (s : Addr), vs = [.ref s] ∧ Src H s ∧ ∀ (p ra : Addr) (w h lw lh mw mh g sk st : V) (n0 n1 n2 n3 : Nat) H', Dr s H H' → H p = none → p ≠ s → H' p = some (.lst [w, h, lw, lh, mw, mh, g, sk, .ref ra, st]) → H' ra = some (.tup [.int (n0 : Int), .int (n1 : Int), .int (n2 : Int), .int (n3 : Int)]) → OkL K H' [w, h, lw, lh, mw, mh, g, sk, .ref ra, st] → Q (.ref p) H'
theorem ok_w_values (T : Tx K mg) : FnOk P w K mg base CX0 5 T.d_w_values.f T.d_w_values.fd ["_law_source_here"] (sp_w_values K) := by
  refine T.d_w_values.F.ok sc_w_values (fun vs H Q E h => ?_) (fun cdv A outer s H vs Q E hr h => ?_)
  · obtain ⟨s, rfl, _⟩ := h
    rfl
  · obtain ⟨s, rfl, hs, k⟩ := h
    refine ⟨_, (pss_cons (ps_set (i := 1) sc_w_values.nd rfl (Or.inl rfl) (pe_op (op_catK (K := K) rfl) (pe_lstA (pa_cons (pe_call (ok_w_size T) (hr.mono (by decide)) (by rfl) T.d_w_size.g T.d_w_size.F.kp T.d_w_size.b .nil pass0 (pa_cons (pv 0) pa_nil)) (pa_cons (pe_call (ok_w_size T) (hr.mono (by decide)) (by rfl) T.d_w_size.g T.d_w_size.F.kp T.d_w_size.b .nil pass0 (pa_cons (pv 0) pa_nil)) pa_nil))) (pe_lc (own := [("_law_k", 2)]) (g := gName 2) (by rfl) sc_w_values.nd (pi_range1 (by rfl) T.b_range (pa_cons pe_int pa_nil)) (blkOk_by (own := [("_law_k", 2)]) (N := N_w_values) (sc := defScope s_w_values) (by decide +kernel)) (fun _ _ _ _ _ => (pg_name (i := 2) sc_w_values.nd rfl (Or.inl rfl))) (fun _ _ _ _ _ => pts_nil) (fun _ _ _ _ _ => (pe_call (ok_w_number T) (hr.mono (by decide)) (by rfl) T.d_w_number.g T.d_w_number.F.kp T.d_w_number.b .nil pass0 (pa_cons (pv 0) pa_nil))))))
      (pss_cons (ps_set (i := 1) sc_w_values.nd rfl (Or.inl rfl) (pe_op (op_catK (K := K) rfl) (pv 1) (pe_lstA (pa_cons (pe_call (ok_w_number T) (hr.mono (by decide)) (by rfl) T.d_w_number.g T.d_w_number.F.kp T.d_w_number.b .nil pass0 (pa_cons (pv 0) pa_nil)) (pa_cons (pe_call (ok_w_number T) (hr.mono (by decide)) (by rfl) T.d_w_number.g T.d_w_number.F.kp T.d_w_number.b .nil pass0 (pa_cons (pv 0) pa_nil)) pa_nil)))))
      (pss_cons (ps_expr (pe_bm PySem.F.plainAttrs_list PySem.F.slot_list_append PySem.F.type_list_append mt_appendA (pv 1) (pa_cons (pe_callTy (call_tupLK (K := K) rfl) (by rfl) T.b_tuple (by decide +kernel) (pa_cons (pe_lc (own := [("_law_k", 2)]) (g := gName 2) (by rfl) sc_w_values.nd (pi_range1 (by rfl) T.b_range (pa_cons pe_int pa_nil)) (blkOk_by (own := [("_law_k", 2)]) (N := N_w_values) (sc := defScope s_w_values) (by decide +kernel)) (fun _ _ _ _ _ => (pg_name (i := 2) sc_w_values.nd rfl (Or.inl rfl))) (fun _ _ _ _ _ => pts_nil) (fun _ _ _ _ _ => (pe_call (ok_w_number T) (hr.mono (by decide)) (by rfl) T.d_w_number.g T.d_w_number.F.kp T.d_w_number.b .nil pass0 (pa_cons (pv 0) pa_nil)))) pa_nil)) pa_nil)))
      (pss_one (ps_ret (pe_op (op_catK (K := K) rfl) (pv 1) (pe_lstA (pa_cons (pe_ix (ix_listK (K := K) rfl) (pe_lstA (pa_cons pe_non (pa_cons pe_str (pa_cons pe_str (pa_cons pe_str (pa_cons pe_str (pa_cons pe_str pa_nil))))))) (pe_call (ok_w_next T) (hr.mono (by decide)) (by rfl) T.d_w_next.g T.d_w_next.F.kp T.d_w_next.b .nil pass0 (pa_cons (pv 0) (pa_cons pe_int pa_nil))) (fun _ _ => rfl)) pa_nil)))))))), ?_⟩
    tm_at "rzs"
    intro w H1 d1 hw
    tm_at "rzs"
    intro h H2 d2 hh
    tm_at "rzs"
    intro p3 H3 f3 s3 g3
    have np3 : p3 ≠ s := d2.s.ne f3
    have d3 := (d1.trans d2).same s3
    have hh3 := hh.same s3
    have hw2 := hw.dr d1.s d2
    have hw3 := hw2.same s3
    refine ⟨_, rfl, by decide, by decide, fun D hD => lcRo (n := 4) (s := s) (fun i v H => BdAt v) (fun i v Ha Hb acc h g hb => h) (fun i v Ha Hb h hsa d => h) d3.s hD (by decide) (fun i H' Kt Kf acc hi' dp hacc kk => ?_) (fun us H4 d4 hul hub nD gD => ?_)⟩
    · tm_at "rzs"
      intro m H5 d5 hv5
      exact kk _ H5 d5 (.inr ⟨m, rfl⟩)
    obtain ⟨b0, b1, b2, b3, rfl⟩ := four hul
    have c0 := hub 0 _ rfl
    have c1 := hub 1 _ rfl
    have c2 := hub 2 _ rfl
    have c3 := hub 3 _ rfl
    have g34 := d4.app np3 g3
    have hw4 := hw3.dr d3.s d4
    have hh4 := hh3.dr d3.s d4
    have d4' := d3.trans d4
    refine ⟨_, _, _, _, rfl, rfl, g34, gD, Nat.le_of_ble_eq_true rfl, fun p5 H5 f5 s5 g5 => ?_⟩
    have d5 := d4'.same s5
    have np5 : p5 ≠ s := d4'.s.ne f5
    dsimp only [gName]
    tm_at "rzs"
    intro m6 H6 d6 u6
    tm_at "rzs"
    intro m7 H7 d7 u7
    tm_at "rzs"
    intro p8 H8 f8 s8 g8
    have d8 := ((d5.trans d6).trans d7).same s8
    have hw8 := ((((hw4.same s5).dr d5.s d6).dr d6.s d7).same s8)
    have hh8 := ((((hh4.same s5).dr d5.s d6).dr d6.s d7).same s8)
    have g58 := s8 _ _ (d7.app np5 (d6.app np5 g5))
    refine ⟨_, _, _, _, rfl, rfl, g58, g8, Nat.le_of_ble_eq_true rfl, fun p9 H9 f9 s9 g9 => ?_⟩
    have d9 := d8.same s9
    have np9 : p9 ≠ s := d8.s.ne f9
    have fp9 : H p9 = none := d8.free f9 np9
    dsimp only [gName]
    tm_at "rzs"
    refine fun D2 hD2 => lcRo (n := 4) (s := s) (fun i v H => CtAt v) (fun i v Ha Hb acc h g hb => h) (fun i v Ha Hb h hsa d => h) d9.s hD2 (by decide) (fun i H' Kt Kf acc hi' dp hacc kk => ?_) (fun us2 H10 d10 hul2 hub2 nD2 gD2 => ?_)
    · tm_at "rzs"
      intro m H5' d5' u5'
      exact kk _ _ d5' ⟨m, rfl⟩
    obtain ⟨r0, r1, r2, r3, rfl⟩ := four hul2
    obtain ⟨n0, rfl⟩ := hub2 0 _ rfl
    obtain ⟨n1, rfl⟩ := hub2 1 _ rfl
    obtain ⟨n2, rfl⟩ := hub2 2 _ rfl
    obtain ⟨n3, rfl⟩ := hub2 3 _ rfl
    tm_at "rzs"
    refine ⟨D2, _, rfl, sqL gD2, fun ra H11 f11 s11 g11 => ?_⟩
    have d11 := (d9.trans d10).same s11
    have g911 := s11 _ _ (d10.app np9 g9)
    have hw11 := ((hw8.same s9).dr d9.s d10).same s11
    have hh11 := ((hh8.same s9).dr d9.s d10).same s11
    tm_at "rzs"
    refine ⟨_, _, _, rfl, rfl, g911, Nat.lt_of_succ_le (Nat.le_of_ble_eq_true rfl), fun H12 b12 g12 => ?_⟩
    have d12 := Dr.mut d11 b12 fp9 np9.symm
    have hw12 := hw11.but b12 g911
    have hh12 := hh11.but b12 g911
    have g1112 := tup_but b12 g911 g11
    tm_at "rzs"
    intro p13 H13 f13 s13 g13
    have np13 : p13 ≠ s := d12.s.ne f13
    tm_at "rzs"
    intro n14 H14 d14 l14 u14
    obtain ⟨st, hst, hstA⟩ := pick6 (P := StAt) l14 u14 (a := .non) (b := sX "start") (c := sX "end") (d := sX "middle") (e := sX "stretch") (f := sX "base") (.inl rfl) (.inr ⟨_, by decide, rfl⟩) (.inr ⟨_, by decide, rfl⟩) (.inr ⟨_, by decide, rfl⟩) (.inr ⟨_, by decide, rfl⟩) (.inr ⟨_, by decide, rfl⟩)
    refine ⟨_, _, _, _, rfl, rfl, sqL (d14.app np13 g13), hst, ?_⟩
    tm_at "rzs"
    intro p15 H15 f15 s15 g15
    have d15 := ((d12.same s13).trans d14).same s15
    have g1215 := s15 _ _ (d14.app np9 (s13 _ _ g12))
    have hw15 := ((hw12.same s13).dr (d12.s.same s13) d14).same s15
    have hh15 := ((hh12.same s13).dr (d12.s.same s13) d14).same s15
    have g1115 := s15 _ _ (tup_dr d14 (d12.s.same s13) (s13 _ _ g1112))
    refine ⟨_, _, _, _, rfl, rfl, g1215, g15, Nat.le_of_ble_eq_true rfl, fun p16 H16 f16 s16 g16 => ?_⟩
    have np16 : p16 ≠ s := d15.s.ne f16
    refine k p16 ra w h b0 b1 b2 b3 (.int (m6 : Int)) (.int (m7 : Int)) st n0 n1 n2 n3 H16 (d15.same s16) (d15.free f16 np16) np16 g16 (s16 _ _ g1115) ⟨rfl, fun i v e => ?_⟩
    match i, e with
    | 0, e => cases e; exact hw15.same s16
    | 1, e => cases e; exact hh15.same s16
    | 2, e => cases e; exact c0
    | 3, e => cases e; exact c1
    | 4, e => cases e; exact c2
    | 5, e => cases e; exact c3
    | 6, e => cases e; exact ⟨_, rfl⟩
    | 7, e => cases e; exact ⟨_, rfl⟩
    | 8, e => cases e; exact RmAt.of (s16 _ _ g1115)
    | 9, e => cases e; exact hstA
    | n + 10, e => cases e
end
end My
namespace My
open PySem PySem.Spec PyProof.Rows L2
section
variable {P : Program} {w : World} {K : PySem.W.Frag} {mg : Str → Option Value} {base : Heap}
def sp_w_no_count (K : PySem.W.Frag) : Sp := fun vs H Q _ => ∃ (s : Addr), vs = [.ref s] ∧ Src H s ∧ ∀ (v : V) H', Dr s H H' → JkC K H' v → Q v H'
theorem ok_w_no_count (T : Tx K mg) : FnOk P w K mg base CX0 6 T.d_w_no_count.f T.d_w_no_count.fd ["_law_source_here"] (sp_w_no_count K) := by
  refine T.d_w_no_count.F.ok sc_w_no_count (fun vs H Q E h => ?_) (fun cdv A outer s H vs Q E hr h => ?_)
  · obtain ⟨s, rfl, _⟩ := h
    rfl
  · obtain ⟨s, rfl, hs, k⟩ := h
    refine ⟨_, (pss_cons (ps_set (i := 1) sc_w_no_count.nd rfl (Or.inl rfl) (pe_lstA (pa_cons pe_bl (pa_cons pe_bl (pa_cons pe_str (pa_cons pe_str (pa_cons (pe_tupA (pa_cons pe_int pa_nil)) (pa_cons (pe_lstA (pa_cons pe_int pa_nil)) (pa_cons (pe_lstA pa_nil) (pa_cons pe_dnewA (pa_cons (pe_tupA pa_nil) (pa_cons (pe_un un_neg pe_int) (pa_cons (pe_op op_sub (pe_op op_sub pe_int pe_int) (pe_call (ok_w_number T) (hr.mono (by decide)) (by rfl) T.d_w_number.g T.d_w_number.F.kp T.d_w_number.b .nil pass0 (pa_cons (pv 0) pa_nil))) (pa_cons (pe_makeK0 T.d_Style_init.mks (ok_Style_init T) (hr.mono (by decide)) (by rfl) T.c_Style.g (Classical.choose_spec (kb_Style_init_1_ T)) passLN pk_nil) pa_nil))))))))))))))
      (pss_one (ps_ret (pe_ix (ix_listK (K := K) rfl) (pv 1) (pe_call (ok_w_next T) (hr.mono (by decide)) (by rfl) T.d_w_next.g T.d_w_next.F.kp T.d_w_next.b .nil pass0 (pa_cons (pv 0) (pa_cons (pe_callB (call_lenK (K := K) rfl) (by rfl) T.b_len (by decide +kernel) (pa_cons (pv 1) pa_nil)) pa_nil))) (fun _ _ => rfl))))), ?_⟩
    tm_at "rzs"
    intro p1 H1 f1 s1 g1
    tm_at "rzs"
    intro p2 H2 f2 s2 g2
    tm_at "rzs"
    intro p3 H3 f3 s3 g3
    tm_at "rzs"
    intro p4 H4 f4 s4 g4
    tm_at "rzs"
    intro p5 H5 f5 s5 g5
    tm_at "rzs"
    have hs5 : Src H5 s := ((((hs.same s1).same s2).same s3).same s4).same s5
    intro n6 H6 d6 u6
    tm_at "rzs"
    intro x dx fx fdx nd
    refine mk_bat (fs := dfltL T.U_NO_RIMS) (dflt_fbl T.t_NO_RIMS) fx fdx nd fun H7 s7 => ⟨fun _ gx => ?_, fun e => absurd e (by decide)⟩
    tm_at "rzs"
    intro p8 H8 f8 s8 g8
    have np8 : p8 ≠ s := (d6.s.same s7).ne f8
    have pl : Pl K T.c_Style.C := ⟨T.c_Style.cls, T.wc, T.wg, T.wt, T.wm, T.k_int, T.k_bool, T.k_str, T.k_tuple, T.k_list⟩
    have d08 : Dr s H H8 := ((((Dr.of hs ((((s1.trans s2).trans s3).trans s4).trans s5)).trans d6).same s7).same s8)
    have r5 : Keep H5 H8 := ⟨fun a o e n => s8 _ _ (s7 _ _ ((Dr.keep d6 hs5).1 a o e n)), fun a xs e => let ⟨ys, q⟩ := (Dr.keep d6 hs5).2 a xs e; ⟨ys, s8 _ _ (s7 _ _ q)⟩⟩
    dsimp only [gName]
    refine ⟨_, rfl, ?_⟩
    refine ⟨_, rfl, ?_⟩
    refine ⟨_, rfl, ?_⟩
    refine ⟨_, _, rfl, .inl ⟨_, sqL g8, rfl⟩, ?_⟩
    refine ⟨_, _, rfl, d08.s, (show (0 : Int) < 12 by decide), (show (12 : Int) < 2 ^ 64 by decide), fun n9 H9 d9 l9 u9 => ?_⟩
    have hn9 : n9 < 12 := u9
    have hj : ∀ y ∈ [V.bl true, .bl false, sX "3", sX "", .ref p1, .ref p2, .ref p3, .ref p4, .ref p5, .int (-1), .int (0 - 1 - (n6 : Int)), (.ref x : V)], JkC K H8 y := fun y m => by
      have q1 := r5.tup (s5 _ _ (s4 _ _ (s3 _ _ (s2 _ _ g1))))
      obtain ⟨y2, q2⟩ := r5.2 _ _ (s5 _ _ (s4 _ _ (s3 _ _ g2)))
      obtain ⟨y3, q3⟩ := r5.2 _ _ (s5 _ _ (s4 _ _ g3))
      have q4 := r5.1 _ _ (s5 _ _ g4) fun ys e => by cases e
      have q5 := r5.tup g5
      have q6 := s8 _ _ gx
      simp only [List.mem_cons, List.not_mem_nil, or_false] at m
      rcases m with rfl | rfl | rfl | rfl | rfl | rfl | rfl | rfl | rfl | rfl | rfl | rfl
      · exact ⟨_, .bl _, by decide, rfl, fun e => absurd e (by decide)⟩
      · exact ⟨_, .bl _, by decide, rfl, fun e => absurd e (by decide)⟩
      · exact ⟨_, .str _, by decide, rfl, fun e => absurd e (by decide)⟩
      · exact ⟨_, .str _, by decide, rfl, fun e => absurd e (by decide)⟩
      · exact ⟨_, .tup q1, by decide, rfl, fun e => ⟨_, _, rfl, q1, by decide⟩⟩
      · exact ⟨_, .lst q2, by decide, rfl, fun e => absurd e (by decide)⟩
      · exact ⟨_, .lst q3, by decide, rfl, fun e => absurd e (by decide)⟩
      · exact ⟨_, .dK q4, by decide, rfl, fun e => absurd e (by decide)⟩
      · exact ⟨_, .tup q5, by decide, rfl, fun e => ⟨_, _, rfl, q5, by decide⟩⟩
      · exact ⟨_, .int _, by decide, rfl, fun e => absurd e (by decide)⟩
      · exact ⟨_, .int _, by decide, (by unfold isN; exact decide_eq_false (by omega)), fun e => absurd e (by decide)⟩
      · exact ⟨_, .ins q6 pl, by decide, rfl, fun e => absurd e (by decide)⟩
    obtain ⟨v, hv, jv⟩ := pickA (P := JkC K H8) hj l9 hn9
    refine ⟨_, _, _, _, rfl, rfl, sqL (d9.app np8 g8), hv, ?_⟩
    exact k v H9 (d08.trans d9) (jv.keep (Dr.keep d9 d08.s))
end
end My
namespace My
open PySem PySem.Spec PyProof.Rows L2
section
variable {P : Program} {w : World} {K : PySem.W.Frag} {mg : Str → Option Value} {base : Heap}
def sp_w_no_name (K : PySem.W.Frag) : Sp := fun vs H Q _ => ∃ (s : Addr), vs = [.ref s] ∧ Src H s ∧ ∀ (v : V) H', Dr s H H' → NmAt K H' v false → Q v H'
theorem ok_w_no_name (T : Tx K mg) : FnOk P w K mg base CX0 4 T.d_w_no_name.f T.d_w_no_name.fd ["_law_source_here"] (sp_w_no_name K) := by
  refine T.d_w_no_name.F.ok sc_w_no_name (fun vs H Q E h => ?_) (fun cdv A outer s H vs Q E hr h => ?_)
  · obtain ⟨s, rfl, _⟩ := h
    rfl
  · obtain ⟨s, rfl, hs, k⟩ := h
    refine ⟨_, (pss_cons (ps_set (i := 1) sc_w_no_name.nd rfl (Or.inl rfl) pe_str)
      (pss_cons (ps_set (i := 2) sc_w_no_name.nd rfl (Or.inl rfl) (pe_call (ok_w_next T) (hr.mono (by decide)) (by rfl) T.d_w_next.g T.d_w_next.F.kp T.d_w_next.b .nil pass0 (pa_cons (pv 0) (pa_cons pe_int pa_nil))))
      (pss_cons (ps_set (i := 3) sc_w_no_name.nd rfl (Or.inl rfl) (pe_call (ok_w_next T) (hr.mono (by decide)) (by rfl) T.d_w_next.g T.d_w_next.F.kp T.d_w_next.b .nil pass0 (pa_cons (pv 0) (pa_cons (pe_op op_add (pv 2) pe_int) pa_nil))))
      (pss_cons (ps_set (i := 4) sc_w_no_name.nd rfl (Or.inl rfl) (pe_call (ok_w_name T) (hr.mono (by decide)) (by rfl) T.d_w_name.g T.d_w_name.F.kp T.d_w_name.b .nil pass0 (pa_cons (pv 0) (pa_cons (pv 2) pa_nil))))
      (pss_cons (ps_set (i := 5) sc_w_no_name.nd rfl (Or.inl rfl) (pe_op op_add_str (pe_op op_add_str (pe_slice sl_str (pv 4) po_none (po_some (pv 3))) (pe_ix ix_str (pv 1) (pe_call (ok_w_next T) (hr.mono (by decide)) (by rfl) T.d_w_next.g T.d_w_next.F.kp T.d_w_next.b .nil pass0 (pa_cons (pv 0) (pa_cons (pe_callB (call_lenK (K := K) rfl) (by rfl) T.b_len (by decide +kernel) (pa_cons (pv 1) pa_nil)) pa_nil))) (fun _ _ => rfl))) (pe_slice sl_str (pv 4) (po_some (pv 3)) po_none)))
      (pss_cons (ps_set (i := 6) sc_w_no_name.nd rfl (Or.inl rfl) (pe_lstA (pa_cons (pv 5) (pa_cons pe_str (pa_cons (pe_call (ok_w_name T) (hr.mono (by decide)) (by rfl) T.d_w_name.g T.d_w_name.F.kp T.d_w_name.b .nil pass0 (pa_cons (pv 0) (pa_cons (pe_op op_add pe_int (pe_call (ok_w_next T) (hr.mono (by decide)) (by rfl) T.d_w_next.g T.d_w_next.F.kp T.d_w_next.b .nil pass0 (pa_cons (pv 0) (pa_cons pe_int pa_nil)))) pa_nil))) (pa_cons pe_non (pa_cons pe_int (pa_cons (pe_tupA (pa_cons pe_str pa_nil)) (pa_cons (pe_lstA (pa_cons pe_str pa_nil)) pa_nil)))))))))
      (pss_one (ps_ret (pe_ix (ix_listK (K := K) rfl) (pv 6) (pe_ix (ix_listK (K := K) rfl) (pe_lstA (pa_cons pe_int (pa_cons pe_int (pa_cons pe_int (pa_cons pe_int (pa_cons pe_int (pa_cons pe_int (pa_cons pe_int (pa_cons pe_int (pa_cons pe_int (pa_cons pe_int pa_nil))))))))))) (pe_call (ok_w_next T) (hr.mono (by decide)) (by rfl) T.d_w_next.g T.d_w_next.F.kp T.d_w_next.b .nil pass0 (pa_cons (pv 0) (pa_cons pe_int pa_nil))) (fun _ _ => rfl)) (fun _ _ => rfl)))))))))), ?_⟩
    tm_at "rzs"
    intro n1 H1 d1 l1 u1
    dsimp only [gName]
    tm_at "rzs"
    intro n2 H2 d2 l2 u2
    obtain ⟨m, rfl⟩ := Int.eq_ofNat_of_zero_le l2
    dsimp only [gName]
    tm_at "rzs"
    intro l H3 d3 ll lc
    dsimp only [gName]
    tm_at "rzs"
    refine ⟨by rw [sO_len, sizeLine_eq]; omega, ?_⟩
    rw [cutS_take]
    refine ⟨_, rfl, ?_⟩
    refine ⟨_, rfl, ?_⟩
    refine ⟨_, rfl, ?_⟩
    refine ⟨_, 45, rfl, ⟨by decide +kernel, by decide +kernel⟩, ?_⟩
    refine ⟨_, _, rfl, d3.s, (show (0 : Int) < 45 by decide), (show (45 : Int) < 2 ^ 64 by decide), fun n4 H4 d4 l4 u4 => ?_⟩
    have u4 : n4 < 45 := u4
    obtain ⟨c, hc, mc⟩ := at_some (xs := oddsL) l4 (by rw [odds_len]; exact u4)
    refine ⟨_, _, c, rfl, rfl, by decide +kernel, hc, ?_⟩
    refine ⟨_, _, rfl, rfl, by rw [sO_len, sizeLine_eq, List.length_take]; show min _ _ + 1 ≤ _; omega, ?_⟩
    rw [show (⟨#[c]⟩ : Str) = sO [c] from rfl, sO_append]
    tm_at "rzs"
    refine ⟨by rw [sO_len, sizeLine_eq]; omega, ?_⟩
    rw [cutS_drop _ _ (by omega)]
    refine ⟨_, _, rfl, rfl, by rw [sO_len, sO_len, sizeLine_eq, List.length_append, List.length_take, List.length_drop]; show min _ _ + 1 + _ ≤ _; omega, ?_⟩
    rw [sO_append]
    dsimp only [gName]
    tm_at "rzs"
    intro n5 H5 d5 l5 u5
    tm_at "rzs"
    intro l6 H6 d6 ll6 lc6
    tm_at "rzs"
    intro p7 H7 f7 s7 g7
    tm_at "rzs"
    intro p8 H8 f8 s8 g8
    tm_at "rzs"
    intro p9 H9 f9 s9 g9
    dsimp only [gName]
    have dA : Dr s H H9 := (((((((d1.trans d2).trans d3).trans d4).trans d5).trans d6).same s7).same s8).same s9
    have np9 : p9 ≠ s := (((d6.s.same s7).same s8)).ne f9
    have hs9 := dA.s
    tm_at "rzs"
    intro p10 H10 f10 s10 g10
    have np10 : p10 ≠ s := hs9.ne f10
    have hs10 := hs9.same s10
    tm_at "rzs"
    intro n11 H11 d11 l11 u11
    obtain ⟨x, hx, ix, rfl, ix0, ix1⟩ := pickA (P := InR 0 7) (xs := [.int 0, .int 0, .int 0, .int 1, .int 2, .int 2, .int 3, .int 4, .int 5, .int 6]) (fun y m => by
      simp only [List.mem_cons, List.not_mem_nil, or_false] at m
      rcases m with rfl | rfl | rfl | rfl | rfl | rfl | rfl | rfl | rfl | rfl <;> exact ⟨_, rfl, by decide, by decide⟩) l11 u11
    refine ⟨_, _, _, _, rfl, rfl, sqL (d11.app np10 g10), hx, ?_⟩
    have dB : Dr s H H11 := (dA.same s10).trans d11
    have r9 : Keep H9 H11 := ⟨fun a o e n => (Dr.keep d11 hs10).1 a o (s10 _ _ e) n, fun a xs e => (Dr.keep d11 hs10).2 a xs (s10 _ _ e)⟩
    have q7 := s9 _ _ (s8 _ _ g7)
    have q8 := s9 _ _ g8
    have hj : ∀ y ∈ [V.str (sO (l.take m ++ [c] ++ l.drop m)), sX "", .str (sO l6), .non, .int 5, .ref p7, .ref p8], NmAt K H9 y false := fun y my => by
      simp only [List.mem_cons, List.not_mem_nil, or_false] at my
      rcases my with rfl | rfl | rfl | rfl | rfl | rfl | rfl
      · exact .inr ⟨_, rfl, nmB_odd (odds_no c mc), by rw [List.length_append, List.length_append, List.length_take, List.length_drop]; show min _ _ + 1 + _ ≤ _; omega⟩
      · exact .inr ⟨[], by rw [← empty_eq], rfl, by decide⟩
      · exact .inr ⟨_, rfl, nmB_long (by omega), by omega⟩
      · exact .inl ⟨_, .non, by decide, rfl⟩
      · exact .inl ⟨_, .int _, by decide, rfl⟩
      · exact .inl ⟨_, .tup q7, by decide, rfl⟩
      · exact .inl ⟨_, .lst q8, by decide, rfl⟩
    obtain ⟨v, hv, jv⟩ := pickA (P := fun y => NmAt K H9 y false) hj ix0 ix1
    refine ⟨_, _, _, _, rfl, rfl, sqL (d11.app np9 (s10 _ _ g9)), hv, ?_⟩
    exact k v H11 dB (jv.keep r9)
end
end My
namespace My
open PySem PySem.Spec PyProof.Rows L2
section
variable {P : Program} {w : World} {K : PySem.W.Frag} {mg : Str → Option Value} {base : Heap}
def sp_w_no_size (K : PySem.W.Frag) : Sp := fun vs H Q _ => ∃ (s : Addr), vs = [.ref s] ∧ Src H s ∧ ∀ (v : V) H', Dr s H H' → NoSz K H' v → Q v H'
theorem ok_w_no_size (T : Tx K mg) : FnOk P w K mg base CX0 7 T.d_w_no_size.f T.d_w_no_size.fd ["_law_source_here"] (sp_w_no_size K) := by
  refine T.d_w_no_size.F.ok sc_w_no_size (fun vs H Q E h => ?_) (fun cdv A outer s H vs Q E hr h => ?_)
  · obtain ⟨s, rfl, _⟩ := h
    rfl
  · obtain ⟨s, rfl, hs, k⟩ := h
    refine ⟨_, (pss_cons (ps_set (i := 1) sc_w_no_size.nd rfl (Or.inl rfl) (pe_call (ok_w_next T) (hr.mono (by decide)) (by rfl) T.d_w_next.g T.d_w_next.F.kp T.d_w_next.b .nil pass0 (pa_cons (pv 0) (pa_cons pe_int pa_nil))))
      (pss_cons (ps_set (i := 2) sc_w_no_size.nd rfl (Or.inl rfl) (pe_call (ok_w_number T) (hr.mono (by decide)) (by rfl) T.d_w_number.g T.d_w_number.F.kp T.d_w_number.b .nil pass0 (pa_cons (pv 0) pa_nil)))
      (pss_cons (ps_set (i := 3) sc_w_no_size.nd rfl (Or.inl rfl) (pe_call (ok_w_name T) (hr.mono (by decide)) (by rfl) T.d_w_name.g T.d_w_name.F.kp T.d_w_name.b .nil pass0 (pa_cons (pv 0) (pa_cons (pe_op op_add pe_int (pe_call (ok_w_next T) (hr.mono (by decide)) (by rfl) T.d_w_next.g T.d_w_next.F.kp T.d_w_next.b .nil pass0 (pa_cons (pv 0) (pa_cons pe_int pa_nil)))) pa_nil))))
      (pss_cons (ps_if (pt_cmpR op_eq (pv 1) pe_int (nomark _))
      (pss_one (ps_ret (pe_call (ok_w_no_count T) (hr.mono (by decide)) (by rfl) T.d_w_no_count.g T.d_w_no_count.F.kp T.d_w_no_count.b .nil pass0 (pa_cons (pv 0) pa_nil))))
      pss_nil)
      (pss_cons (ps_if (pt_cmpR op_eq (pv 1) pe_int (nomark _))
      (pss_one (ps_ret (pe_tupA (pa_cons pe_str (pa_cons (pe_call (ok_w_no_count T) (hr.mono (by decide)) (by rfl) T.d_w_no_count.g T.d_w_no_count.F.kp T.d_w_no_count.b .nil pass0 (pa_cons (pv 0) pa_nil)) pa_nil)))))
      pss_nil)
      (pss_cons (ps_if (pt_cmpR op_eq (pv 1) pe_int (nomark _))
      (pss_one (ps_ret (pe_tupA (pa_cons pe_str (pa_cons (pe_call (ok_w_no_name T) (hr.mono (by decide)) (by rfl) T.d_w_no_name.g T.d_w_no_name.F.kp T.d_w_no_name.b .nil pass0 (pa_cons (pv 0) pa_nil)) (pa_cons pe_str (pa_cons (pv 2) pa_nil)))))))
      pss_nil)
      (pss_cons (ps_if (pt_cmpR op_eq (pv 1) pe_int (nomark _))
      (pss_one (ps_ret (pe_tupA (pa_cons pe_str (pa_cons (pv 3) (pa_cons pe_str (pa_cons (pe_ix (ix_listK (K := K) rfl) (pe_lstA (pa_cons pe_non (pa_cons pe_bl (pa_cons pe_bl (pa_cons pe_str (pa_cons (pe_tupA (pa_cons (pv 2) pa_nil)) (pa_cons (pe_lstA (pa_cons (pv 2) pa_nil)) pa_nil))))))) (pe_call (ok_w_next T) (hr.mono (by decide)) (by rfl) T.d_w_next.g T.d_w_next.F.kp T.d_w_next.b .nil pass0 (pa_cons (pv 0) (pa_cons pe_int pa_nil))) (fun _ _ => rfl)) pa_nil)))))))
      pss_nil)
      (pss_cons (ps_if (pt_cmpR op_eq (pv 1) pe_int (nomark _))
      (pss_cons (ps_set (i := 4) sc_w_no_size.nd rfl (Or.inl rfl) (pe_ix (ix_listK (K := K) rfl) (pe_lstA (pa_cons pe_str (pa_cons pe_str (pa_cons pe_str (pa_cons pe_str (pa_cons pe_str (pa_cons pe_str (pa_cons pe_non (pa_cons pe_int (pa_cons pe_bl (pa_cons (pe_tupA (pa_cons pe_str pa_nil)) pa_nil))))))))))) (pe_call (ok_w_next T) (hr.mono (by decide)) (by rfl) T.d_w_next.g T.d_w_next.F.kp T.d_w_next.b .nil pass0 (pa_cons (pv 0) (pa_cons pe_int pa_nil))) (fun _ _ => rfl)))
      (pss_one (ps_ret (pe_tupA (pa_cons pe_str (pa_cons (pv 3) (pa_cons (pv 4) (pa_cons (pv 2) pa_nil))))))))
      pss_nil)
      (pss_cons (ps_set (i := 5) sc_w_no_size.nd rfl (Or.inl rfl) (pe_lstA (pa_cons (pe_tupA (pa_cons pe_str pa_nil)) (pa_cons (pe_tupA (pa_cons pe_str (pa_cons (pv 2) (pa_cons (pv 2) pa_nil)))) (pa_cons (pe_tupA (pa_cons pe_str (pa_cons (pv 2) pa_nil))) (pa_cons (pe_tupA (pa_cons pe_str (pa_cons (pv 3) (pa_cons pe_str pa_nil)))) (pa_cons (pe_tupA (pa_cons pe_str (pa_cons (pv 3) pa_nil))) pa_nil)))))))
      (pss_cons (ps_set (i := 5) sc_w_no_size.nd rfl (Or.inl rfl) (pe_op (op_catK (K := K) rfl) (pv 5) (pe_lstA (pa_cons (pe_tupA (pa_cons pe_str (pa_cons (pv 3) (pa_cons pe_str (pa_cons (pv 2) (pa_cons (pv 2) pa_nil)))))) (pa_cons (pe_tupA (pa_cons pe_str (pa_cons (pv 3) (pa_cons pe_str (pa_cons (pv 2) pa_nil))))) (pa_cons (pe_lstA (pa_cons pe_str (pa_cons (pv 2) pa_nil))) pa_nil))))))
      (pss_cons (ps_set (i := 5) sc_w_no_size.nd rfl (Or.inl rfl) (pe_op (op_catK (K := K) rfl) (pv 5) (pe_lstA (pa_cons (pe_lstA (pa_cons pe_str (pa_cons (pv 3) (pa_cons pe_str (pa_cons (pv 2) pa_nil))))) (pa_cons (pe_tupA (pa_cons pe_str (pa_cons (pv 2) pa_nil))) (pa_cons (pe_tupA (pa_cons pe_str (pa_cons (pv 2) pa_nil))) (pa_cons (pe_tupA (pa_cons (pv 2) (pa_cons pe_str pa_nil))) (pa_cons pe_str pa_nil))))))))
      (pss_cons (ps_set (i := 5) sc_w_no_size.nd rfl (Or.inl rfl) (pe_op (op_catK (K := K) rfl) (pv 5) (pe_lstA (pa_cons (pe_tupA (pa_cons pe_str (pa_cons pe_str (pa_cons (pe_op op_add_str (pv 3) pe_str) (pa_cons (pv 2) pa_nil))))) (pa_cons (pe_tupA (pa_cons pe_str (pa_cons (pv 3) (pa_cons pe_str (pa_cons (pv 2) pa_nil))))) (pa_cons (pe_tupA (pa_cons pe_non (pa_cons (pv 2) pa_nil))) (pa_cons (pv 3) pa_nil)))))))
      (pss_one (ps_ret (pe_ix (ix_listK (K := K) rfl) (pv 5) (pe_call (ok_w_next T) (hr.mono (by decide)) (by rfl) T.d_w_next.g T.d_w_next.F.kp T.d_w_next.b .nil pass0 (pa_cons (pv 0) (pa_cons (pe_callB (call_lenK (K := K) rfl) (by rfl) T.b_len (by decide +kernel) (pa_cons (pv 5) pa_nil)) pa_nil))) (fun _ _ => rfl)))))))))))))))), ?_⟩
    tm_at "rzs"
    intro way H1 d1 l1 u1
    dsimp only [gName]
    tm_at "rzs"
    intro m2 H2 d2 u2
    dsimp only [gName]
    tm_at "rzs"
    intro n3 H3 d3 l3 u3
    tm_at "rzs"
    intro l H4 d4 ll lc
    dsimp only [gName]
    have hl : NameOk l := ⟨by omega, by omega, lc⟩
    have hnm : ∀ H, NmAt K H (.str (sO l)) true := fun H => .inr ⟨l, rfl, nmB_ok hl, by omega⟩
    have dA : Dr s H H4 := ((d1.trans d2).trans d3).trans d4
    have hs4 := dA.s
    tm_at "rds"
    by_cases e0 : way = 0
    · subst e0
      tm_at "rzs"
      intro v H5 d5 jv
      exact k v H5 (dA.trans d5) jv.sz
    refine iteF' (by rw [int_inj_dec]; exact decide_eq_false e0) ?_
    tm_at "rds"
    by_cases e1 : way = 1
    · subst e1
      tm_at "rzs"
      intro v H5 d5 jv
      tm_at "rzs"
      intro p6 H6 f6 s6 g6
      obtain ⟨t, h9, _, en, _⟩ := jv.keep (Same.keep s6)
      exact k _ H6 ((dA.trans d5).same s6) (.part g6 h9 en)
    refine iteF' (by rw [int_inj_dec]; exact decide_eq_false e1) ?_
    tm_at "rds"
    by_cases e2 : way = 2
    · subst e2
      tm_at "rzs"
      intro v H5 d5 jv
      tm_at "rzs"
      intro p6 H6 f6 s6 g6
      exact k _ H6 ((dA.trans d5).same s6) (.nam g6 (jv.keep (Same.keep s6)))
    refine iteF' (by rw [int_inj_dec]; exact decide_eq_false e2) ?_
    tm_at "rds"
    by_cases e3 : way = 3
    · subst e3
      tm_at "rzs"
      intro p5 H5 f5 s5 g5
      tm_at "rzs"
      intro p6 H6 f6 s6 g6
      tm_at "rzs"
      intro p7 H7 f7 s7 g7
      have s47 := (s5.trans s6).trans s7
      have np7 : p7 ≠ s := (hs4.same (s5.trans s6)).ne f7
      have hs7 := hs4.same s47
      tm_at "rzs"
      intro n8 H8 d8 l8 u8
      have q5 := s7 _ _ (s6 _ _ g5)
      have q6 := s7 _ _ g6
      have hj : ∀ y ∈ [V.non, .bl true, .bl false, sX "0", .ref p5, .ref p6], ∃ t, Ty9 K H7 y t ∧ isI y = false := fun y m => by
        simp only [List.mem_cons, List.not_mem_nil, or_false] at m
        rcases m with rfl | rfl | rfl | rfl | rfl | rfl
        · exact ⟨_, .non, rfl⟩
        · exact ⟨_, .bl _, rfl⟩
        · exact ⟨_, .bl _, rfl⟩
        · exact ⟨_, .str _, rfl⟩
        · exact ⟨_, .tup q5, rfl⟩
        · exact ⟨_, .lst q6, rfl⟩
      obtain ⟨v, hv, t, h9, en⟩ := pickA (P := fun y => ∃ t, Ty9 K H7 y t ∧ isI y = false) hj l8 u8
      refine ⟨_, _, _, _, rfl, rfl, sqL (d8.app np7 g7), hv, ?_⟩
      tm_at "rzs"
      intro p9 H9 f9 s9 g9
      exact k _ H9 (((dA.same s47).trans d8).same s9) (.num g9 (hnm _) (.str _) (by decide) (by decide +kernel) ((h9.keep (Dr.keep d8 hs7)).keep (Same.keep s9)) en)
    refine iteF' (by rw [int_inj_dec]; exact decide_eq_false e3) ?_
    tm_at "rds"
    by_cases e4 : way = 4
    · subst e4
      tm_at "rzs"
      intro p5 H5 f5 s5 g5
      tm_at "rzs"
      intro p7 H7 f7 s7 g7
      have s47 := s5.trans s7
      have np7 : p7 ≠ s := (hs4.same s5).ne f7
      have hs7 := hs4.same s47
      tm_at "rzs"
      intro n8 H8 d8 l8 u8
      have q5 := s7 _ _ g5
      have hj : ∀ y ∈ [sX "high", sX "least", sX "", sX "Wide", sX "wide ", sX "walltide", .non, .int 0, .bl true, .ref p5], ∃ t, Ty9 K H7 y t ∧ t ≠ "object" ∧ isSt sidesL y = false := fun y m => by
        simp only [List.mem_cons, List.not_mem_nil, or_false] at m
        rcases m with rfl | rfl | rfl | rfl | rfl | rfl | rfl | rfl | rfl | rfl
        · exact ⟨_, .str _, by decide, by decide +kernel⟩
        · exact ⟨_, .str _, by decide, by decide +kernel⟩
        · exact ⟨_, .str _, by decide, by decide +kernel⟩
        · exact ⟨_, .str _, by decide, by decide +kernel⟩
        · exact ⟨_, .str _, by decide, by decide +kernel⟩
        · exact ⟨_, .str _, by decide, by decide +kernel⟩
        · exact ⟨_, .non, by decide, rfl⟩
        · exact ⟨_, .int _, by decide, rfl⟩
        · exact ⟨_, .bl _, by decide, rfl⟩
        · exact ⟨_, .tup q5, by decide, rfl⟩
      obtain ⟨v, hv, t, h9, nt, en⟩ := pickA (P := fun y => ∃ t, Ty9 K H7 y t ∧ t ≠ "object" ∧ isSt sidesL y = false) hj l8 u8
      refine ⟨_, _, _, _, rfl, rfl, sqL (d8.app np7 g7), hv, ?_⟩
      dsimp only [gName]
      tm_at "rzs"
      intro p9 H9 f9 s9 g9
      exact k _ H9 (((dA.same s47).trans d8).same s9) (.sid g9 (hnm _) ((h9.keep (Dr.keep d8 hs7)).keep (Same.keep s9)) nt en)
    refine iteF' (by rw [int_inj_dec]; exact decide_eq_false e4) ?_
    tm_at "rzs"
    intro a1 G1 f1 s1 g1
    tm_at "rzs"
    intro a2 G2 f2 s2 g2
    tm_at "rzs"
    intro a3 G3 f3 s3 g3
    tm_at "rzs"
    intro a4 G4 f4 s4 g4
    tm_at "rzs"
    intro a5 G5 f5 s5 g5
    tm_at "rzs"
    intro a6 G6 f6 s6 g6
    tm_at "rzs"
    intro a7 G7 f7 s7 g7
    tm_at "rzs"
    intro a8 G8 f8 s8 g8
    tm_at "rzs"
    intro a9 G9 f9 s9 g9
    tm_at "rzs"
    intro a10 G10 f10 s10 g10
    have r6 := s10 _ _ (s9 _ _ (s8 _ _ (s7 _ _ g6)))
    refine ⟨_, _, _, _, rfl, rfl, r6, g10, Nat.le_of_ble_eq_true rfl, fun a11 G11 f11 s11 g11 => ?_⟩
    dsimp only [gName]
    tm_at "rzs"
    intro a12 G12 f12 s12 g12
    tm_at "rzs"
    intro a13 G13 f13 s13 g13
    tm_at "rzs"
    intro a14 G14 f14 s14 g14
    tm_at "rzs"
    intro a15 G15 f15 s15 g15
    tm_at "rzs"
    intro a16 G16 f16 s16 g16
    have r11 := s16 _ _ (s15 _ _ (s14 _ _ (s13 _ _ (s12 _ _ g11))))
    refine ⟨_, _, _, _, rfl, rfl, r11, g16, Nat.le_of_ble_eq_true rfl, fun a17 G17 f17 s17 g17 => ?_⟩
    dsimp only [gName]
    tm_at "rzs"
    have b1 : (Str.ofString "a").length = 1 := by decide +kernel
    refine ⟨by rw [sO_len, sizeLine_eq]; omega, ?_⟩
    tm_at "rzs"
    intro a18 G18 f18 s18 g18
    tm_at "rzs"
    intro a19 G19 f19 s19 g19
    tm_at "rzs"
    intro a20 G20 f20 s20 g20
    tm_at "rzs"
    intro a21 G21 f21 s21 g21
    have r17 := s21 _ _ (s20 _ _ (s19 _ _ (s18 _ _ g17)))
    refine ⟨_, _, _, _, rfl, rfl, r17, g21, Nat.le_of_ble_eq_true rfl, fun a22 G22 f22 s22 g22 => ?_⟩
    dsimp only [gName]
    have S9 : Same G9 G22 := ((((((((((((s10.trans s11).trans s12).trans s13).trans s14).trans s15).trans s16).trans s17).trans s18).trans s19).trans s20).trans s21).trans s22)
    have S0 : Same H4 G22 := (((((((((s1.trans s2).trans s3).trans s4).trans s5).trans s6).trans s7).trans s8).trans s9).trans S9)
    have q1 := S9 _ _ (s9 _ _ (s8 _ _ (s7 _ _ (s6 _ _ (s5 _ _ (s4 _ _ (s3 _ _ (s2 _ _ g1))))))))
    have q2 := S9 _ _ (s9 _ _ (s8 _ _ (s7 _ _ (s6 _ _ (s5 _ _ (s4 _ _ (s3 _ _ g2)))))))
    have q3 := S9 _ _ (s9 _ _ (s8 _ _ (s7 _ _ (s6 _ _ (s5 _ _ (s4 _ _ g3))))))
    have q4 := S9 _ _ (s9 _ _ (s8 _ _ (s7 _ _ (s6 _ _ (s5 _ _ g4)))))
    have q5 := S9 _ _ (s9 _ _ (s8 _ _ (s7 _ _ (s6 _ _ g5))))
    have q7 := S9 _ _ (s9 _ _ (s8 _ _ g7))
    have q8 := S9 _ _ (s9 _ _ g8)
    have q9 := S9 _ _ g9
    have S12 : Same G12 G22 := (((((((((s13.trans s14).trans s15).trans s16).trans s17).trans s18).trans s19).trans s20).trans s21).trans s22)
    have q12 := S12 _ _ g12
    have S16 : Same G15 G22 := (((((((s16.trans s17).trans s18).trans s19).trans s20).trans s21).trans s22))
    have q13 := S16 _ _ (s15 _ _ (s14 _ _ g13))
    have q14 := S16 _ _ (s15 _ _ g14)
    have q15 := S16 _ _ g15
    have q18 := s22 _ _ (s21 _ _ (s20 _ _ (s19 _ _ g18)))
    have q19 := s22 _ _ (s21 _ _ (s20 _ _ g19))
    have q20 := s22 _ _ (s21 _ _ g20)
    have hsA := hs4.same S0
    have f0 : H4 a22 = none := by
      have S21 : Same H4 G21 := ((((((((((((((((((((s1.trans s2).trans s3).trans s4).trans s5).trans s6).trans s7).trans s8).trans s9).trans s10).trans s11).trans s12).trans s13).trans s14).trans s15).trans s16).trans s17).trans s18).trans s19).trans s20).trans s21)
      exact S21.free f22
    have np22 : a22 ≠ s := hs4.ne f0
    refine ⟨_, rfl, ?_⟩
    refine ⟨_, rfl, ?_⟩
    refine ⟨_, rfl, ?_⟩
    refine ⟨_, _, rfl, .inl ⟨_, sqL g22, rfl⟩, ?_⟩
    refine ⟨_, _, rfl, hsA, (show (0 : Int) < 17 by decide), (show (17 : Int) < 2 ^ 64 by decide), fun n10 H10 d10 l10 u10 => ?_⟩
    have u10 : n10 < 17 := u10
    have hj : ∀ y ∈ ((([V.ref a1, .ref a2, .ref a3, .ref a4, .ref a5] ++ [.ref a7, .ref a8, .ref a9]) ++ [.ref a12, .ref a13, .ref a14, .ref a15, sX "part"]) ++ [.ref a18, .ref a19, .ref a20, .str (sO l)] : List V), NoSz K G22 y := fun y m => by
      simp only [List.cons_append, List.nil_append, List.mem_cons, List.not_mem_nil, or_false] at m
      rcases m with rfl | rfl | rfl | rfl | rfl | rfl | rfl | rfl | rfl | rfl | rfl | rfl | rfl | rfl | rfl | rfl | rfl
      · exact .tupN q1 (by show 1 ≠ 2; decide) (by show 1 ≠ 4; decide)
      · exact .tupN q2 (by show 3 ≠ 2; decide) (by show 3 ≠ 4; decide)
      · exact .two q3 (.inr (.inr ⟨_, rfl⟩)) (fun e => by have := V.str.inj e; revert this; decide +kernel)
      · exact .tupN q4 (by show 3 ≠ 2; decide) (by show 3 ≠ 4; decide)
      · exact .two q5 (.inr (.inr ⟨_, rfl⟩)) (fun e => by have := V.str.inj e; revert this; decide +kernel)
      · exact .tupN q7 (by show 5 ≠ 2; decide) (by show 5 ≠ 4; decide)
      · exact .four q8 (.inr (.inr ⟨_, rfl⟩)) (fun e => by have := V.str.inj e; revert this; decide +kernel)
      · exact .jk (.lst q9) (by decide) (by decide) rfl
      · exact .jk (.lst q12) (by decide) (by decide) rfl
      · exact .two q13 (.inr (.inr ⟨_, rfl⟩)) (fun e => by have := V.str.inj e; revert this; decide +kernel)
      · exact .two q14 (.inr (.inr ⟨_, rfl⟩)) (fun e => by have := V.str.inj e; revert this; decide +kernel)
      · exact .two q15 (.inr (.inl ⟨_, rfl⟩)) (fun e => by cases e)
      · exact .jk (.str _) (by decide) (by decide) rfl
      · exact .sid q18 wide_nm (.str _) (by decide) (side_a l)
      · exact .four q19 (.inr (.inr ⟨_, rfl⟩)) (fun e => by have := V.str.inj e; revert this; decide +kernel)
      · exact .two q20 (.inl rfl) (fun e => by cases e)
      · exact .jk (.str _) (by decide) (by decide) rfl
    obtain ⟨v, hv, jv⟩ := pickA (P := NoSz K G22) hj l10 u10
    refine ⟨_, _, _, _, rfl, rfl, sqL (d10.app np22 g22), hv, ?_⟩
    exact k v H10 ((dA.same S0).trans d10) (jv.keep (Dr.keep d10 hsA))
end
end My
namespace My
open PySem PySem.Spec PyProof.Rows L2
section
variable {P : Program} {w : World} {K : PySem.W.Frag} {mg : Str → Option Value} {base : Heap}
def sp_w_no_rims (K : PySem.W.Frag) : Sp := fun vs H Q _ => ∃ (s : Addr), vs = [.ref s] ∧ Src H s ∧ ∀ (v : V) H', Dr s H H' → NoRm K H' v → Q v H'
theorem ok_w_no_rims (T : Tx K mg) : FnOk P w K mg base CX0 7 T.d_w_no_rims.f T.d_w_no_rims.fd ["_law_source_here"] (sp_w_no_rims K) := by
  refine T.d_w_no_rims.F.ok sc_w_no_rims (fun vs H Q E h => ?_) (fun cdv A outer s H vs Q E hr h => ?_)
  · obtain ⟨s, rfl, _⟩ := h
    rfl
  · obtain ⟨s, rfl, hs, k⟩ := h
    refine ⟨_, (pss_cons (ps_setLc (i := 1) (own := [("_law_k", 5)]) (g := gName 5) (by rfl) sc_w_no_rims.nd rfl rfl (sw_true rfl rfl rfl (by decide +kernel)) (pi_range1 (by rfl) T.b_range (pa_cons pe_int pa_nil)) (blkOk_by (own := [("_law_k", 5)]) (N := N_w_no_rims) (sc := defScope s_w_no_rims) (by decide +kernel)) (fun _ _ _ _ _ => (pg_name (i := 5) sc_w_no_rims.nd rfl (Or.inl rfl))) (fun _ _ _ _ _ => pts_nil) (fun _ _ _ _ _ => (pe_call (ok_w_number T) (hr.mono (by decide)) (by rfl) T.d_w_number.g T.d_w_number.F.kp T.d_w_number.b .nil pass0 (pa_cons (pv 0) pa_nil))))
      (pss_cons (ps_set (i := 2) sc_w_no_rims.nd rfl (Or.inl rfl) (pe_call (ok_w_next T) (hr.mono (by decide)) (by rfl) T.d_w_next.g T.d_w_next.F.kp T.d_w_next.b .nil pass0 (pa_cons (pv 0) (pa_cons pe_int pa_nil))))
      (pss_cons (ps_if (pt_cmpR op_eq (pv 2) pe_int (nomark _))
      (pss_cons (ps_set (i := 3) sc_w_no_rims.nd rfl (Or.inl rfl) (pe_op (op_catK (K := K) rfl) (pe_slice (sl_listK (K := K) rfl) (pv 1) po_none (po_some pe_int)) (pe_lstA (pa_cons (pe_call (ok_w_no_count T) (hr.mono (by decide)) (by rfl) T.d_w_no_count.g T.d_w_no_count.F.kp T.d_w_no_count.b .nil pass0 (pa_cons (pv 0) pa_nil)) pa_nil))))
      (pss_cons (ps_set (i := 4) sc_w_no_rims.nd rfl (Or.inl rfl) (pe_call (ok_w_next T) (hr.mono (by decide)) (by rfl) T.d_w_next.g T.d_w_next.F.kp T.d_w_next.b .nil pass0 (pa_cons (pv 0) (pa_cons pe_int pa_nil))))
      (pss_one (ps_ret (pe_callTy (call_tupLK (K := K) rfl) (by rfl) T.b_tuple (by decide +kernel) (pa_cons (pe_op (op_catK (K := K) rfl) (pe_slice (sl_listK (K := K) rfl) (pv 3) (po_some (pv 4)) po_none) (pe_slice (sl_listK (K := K) rfl) (pv 3) po_none (po_some (pv 4)))) pa_nil))))))
      pss_nil)
      (pss_cons (ps_if (pt_cmpR op_eq (pv 2) pe_int (nomark _))
      (pss_one (ps_ret (pe_ix (ix_listK (K := K) rfl) (pe_lstA (pa_cons (pv 1) (pa_cons pe_non (pa_cons pe_int (pa_cons pe_str (pa_cons pe_dnewA (pa_cons (pe_tupA pa_nil) (pa_cons (pe_makeK0 T.d_Style_init.mks (ok_Style_init T) (hr.mono (by decide)) (by rfl) T.c_Style.g (Classical.choose_spec (kb_Style_init_1_ T)) passLN pk_nil) (pa_cons pe_bl pa_nil))))))))) (pe_call (ok_w_next T) (hr.mono (by decide)) (by rfl) T.d_w_next.g T.d_w_next.F.kp T.d_w_next.b .nil pass0 (pa_cons (pv 0) (pa_cons pe_int pa_nil))) (fun _ _ => rfl))))
      pss_nil)
      (pss_cons (ps_if (pt_cmpR op_eq (pv 2) pe_int (nomark _))
      (pss_one (ps_ret (pe_callTy (call_tupLK (K := K) rfl) (by rfl) T.b_tuple (by decide +kernel) (pa_cons (pe_slice (sl_listK (K := K) rfl) (pv 1) po_none (po_some (pe_call (ok_w_next T) (hr.mono (by decide)) (by rfl) T.d_w_next.g T.d_w_next.F.kp T.d_w_next.b .nil pass0 (pa_cons (pv 0) (pa_cons pe_int pa_nil))))) pa_nil))))
      pss_nil)
      (pss_one (ps_ret (pe_callTy (call_tupLK (K := K) rfl) (by rfl) T.b_tuple (by decide +kernel) (pa_cons (pe_op (op_catK (K := K) rfl) (pv 1) (pe_op op_rep (pe_lstA (pa_cons pe_int pa_nil)) (pe_op op_add pe_int (pe_call (ok_w_next T) (hr.mono (by decide)) (by rfl) T.d_w_next.g T.d_w_next.F.kp T.d_w_next.b .nil pass0 (pa_cons (pv 0) (pa_cons pe_int pa_nil)))))) pa_nil))))))))), ?_⟩
    tm_at "rzs"
    refine fun D hD => lcRo (n := 4) (s := s) (fun i v H => CtAt v) (fun i v Ha Hb acc h g hb => h) (fun i v Ha Hb h hsa d => h) hs hD (by decide) (fun i H' Kt Kf acc hi' dp hacc kk => ?_) (fun us H1 d1 hul hub nD gD => ?_)
    · tm_at "rzs"
      intro m H5 d5 u5
      exact kk _ _ d5 ⟨m, rfl⟩
    obtain ⟨b0, b1, b2, b3, rfl⟩ := four hul
    obtain ⟨n0, rfl⟩ := hub 0 _ rfl
    obtain ⟨n1, rfl⟩ := hub 1 _ rfl
    obtain ⟨n2, rfl⟩ := hub 2 _ rfl
    obtain ⟨n3, rfl⟩ := hub 3 _ rfl
    dsimp only [gName]
    have hs1 := d1.s
    tm_at "rzs"
    intro way H2 d2 l2 u2
    have gD2 := d2.app nD gD
    dsimp only [gName]
    tm_at "rds"
    by_cases e0 : way = 0
    · subst e0
      tm_at "rzs"
      refine ⟨_, _, rfl, sqL gD2, fun p3 H3 f3 s3 g3 => ?_⟩
      have g3 : H3 p3 = some (.lst [.int (n0 : Int), .int (n1 : Int), .int (n2 : Int)]) := g3
      have np3 : p3 ≠ s := d2.s.ne f3
      have hs3 := d2.s.same s3
      tm_at "rzs"
      intro v H4 d4 jv
      tm_at "rzs"
      intro p5 H5 f5 s5 g5
      have g35 := s5 _ _ (d4.app np3 g3)
      refine ⟨_, _, _, _, rfl, rfl, g35, g5, Nat.le_of_ble_eq_true rfl, fun p6 H6 f6 s6 g6 => ?_⟩
      have g6 : H6 p6 = some (.lst [.int (n0 : Int), .int (n1 : Int), .int (n2 : Int), v]) := g6
      have hs6 := (d4.s.same s5).same s6
      have np6 : p6 ≠ s := (d4.s.same s5).ne f6
      dsimp only [gName]
      tm_at "rzs"
      intro n7 H7 d7 l7 u7
      have g67 := d7.app np6 g6
      have dA : Dr s H H7 := ((((((d1.trans d2).same s3).trans d4).same s5).same s6).trans d7)
      have jv7 : JkC K H7 v := ((jv.keep (Same.keep s5)).keep (Same.keep s6)).keep (Dr.keep d7 hs6)
      obtain ⟨tv, hv9, _, hvn, _⟩ := jv7
      dsimp only [gName]
      tm_at "rzs"
      rcases (show n7 = 0 ∨ n7 = 1 ∨ n7 = 2 ∨ n7 = 3 by omega) with rfl | rfl | rfl | rfl
      all_goals
        refine ⟨_, _, rfl, sqL g67, fun p8 H8 f8 s8 g8 => ?_⟩
        tm_at "rzs"
        refine ⟨_, _, rfl, sqL (s8 _ _ g67), fun p9 H9 f9 s9 g9 => ?_⟩
        refine ⟨_, _, _, _, rfl, rfl, s9 _ _ g8, g9, Nat.le_of_ble_eq_true rfl, fun p10 H10 f10 s10 g10 => ?_⟩
        tm_at "rzs"
        refine ⟨p10, _, rfl, sqL g10, fun p11 H11 f11 s11 g11 => ?_⟩
        have sB := ((s8.trans s9).trans s10).trans s11
        have hB := hv9.keep (Same.keep sB)
      · have g11 : H11 p11 = some (.tup [.int (n0 : Int), .int (n1 : Int), .int (n2 : Int), v]) := g11
        refine k _ H11 (dA.same sB) (.four g11 rfl (fun x mx => ?_) (by simp [hvn]))
        simp only [List.mem_cons, List.not_mem_nil, or_false] at mx
        rcases mx with rfl | rfl | rfl | rfl <;> first | exact ⟨_, .int _⟩ | exact ⟨_, hB⟩
      · have g11 : H11 p11 = some (.tup [.int (n1 : Int), .int (n2 : Int), v, .int (n0 : Int)]) := g11
        refine k _ H11 (dA.same sB) (.four g11 rfl (fun x mx => ?_) (by simp [hvn]))
        simp only [List.mem_cons, List.not_mem_nil, or_false] at mx
        rcases mx with rfl | rfl | rfl | rfl <;> first | exact ⟨_, .int _⟩ | exact ⟨_, hB⟩
      · have g11 : H11 p11 = some (.tup [.int (n2 : Int), v, .int (n0 : Int), .int (n1 : Int)]) := g11
        refine k _ H11 (dA.same sB) (.four g11 rfl (fun x mx => ?_) (by simp [hvn]))
        simp only [List.mem_cons, List.not_mem_nil, or_false] at mx
        rcases mx with rfl | rfl | rfl | rfl <;> first | exact ⟨_, .int _⟩ | exact ⟨_, hB⟩
      · have g11 : H11 p11 = some (.tup [v, .int (n0 : Int), .int (n1 : Int), .int (n2 : Int)]) := g11
        refine k _ H11 (dA.same sB) (.four g11 rfl (fun x mx => ?_) (by simp [hvn]))
        simp only [List.mem_cons, List.not_mem_nil, or_false] at mx
        rcases mx with rfl | rfl | rfl | rfl <;> first | exact ⟨_, .int _⟩ | exact ⟨_, hB⟩
    refine iteF' (by rw [int_inj_dec]; exact decide_eq_false e0) ?_
    tm_at "rds"
    by_cases e1 : way = 1
    · subst e1
      tm_at "rzs"
      intro p4 H4 f4 s4 g4
      tm_at "rzs"
      intro p5 H5 f5 s5 g5
      tm_at "rzs"
      intro x dx fx fdx nd
      refine mk_bat (fs := dfltL T.U_NO_RIMS) (dflt_fbl T.t_NO_RIMS) fx fdx nd fun H7 s7 => ⟨fun _ gx => ?_, fun e => by cases e⟩
      tm_at "rzs"
      intro p8 H8 f8 s8 g8
      have pl : Pl K T.c_Style.C := ⟨T.c_Style.cls, T.wc, T.wg, T.wt, T.wm, T.k_int, T.k_bool, T.k_str, T.k_tuple, T.k_list⟩
      have s58 := s7.trans s8
      have s28 := (s4.trans s5).trans s58
      have hs7 := (((d2.s.same s4).same s5).same s7)
      have np8 : p8 ≠ s := hs7.ne f8
      have hs8 := hs7.same s8
      tm_at "rzs"
      intro n9 H9 d9 l9 u9
      have q4 := s58 _ _ (s5 _ _ g4)
      have q5 := s58 _ _ g5
      have q6 := s8 _ _ gx
      have qD := s28 _ _ gD2
      have hj : ∀ y ∈ [V.ref D, .non, .int 0, sX "0000", .ref p4, .ref p5, .ref x, .bl true], NoRm K H8 y := fun y m => by
        simp only [List.mem_cons, List.not_mem_nil, or_false] at m
        rcases m with rfl | rfl | rfl | rfl | rfl | rfl | rfl | rfl
        · exact .jk (.lst qD) (by decide)
        · exact .jk .non (by decide)
        · exact .jk (.int _) (by decide)
        · exact .jk (.str _) (by decide)
        · exact .jk (.dK q4) (by decide)
        · exact .tupN q5 (by show 0 ≠ 4; decide)
        · exact .jk (.ins q6 pl) (by decide)
        · exact .jk (.bl _) (by decide)
      obtain ⟨v, hv, jv⟩ := pickA (P := NoRm K H8) hj l9 u9
      refine ⟨_, _, _, _, rfl, rfl, sqL (d9.app np8 g8), hv, ?_⟩
      exact k v H9 (((d1.trans d2).same s28).trans d9) (jv.keep (Dr.keep d9 hs8))
    refine iteF' (by rw [int_inj_dec]; exact decide_eq_false e1) ?_
    tm_at "rds"
    by_cases e2 : way = 2
    · subst e2
      tm_at "rzs"
      intro n3 H3 d3 l3 u3
      tm_at "rzs"
      have gD3 := d3.app nD gD2
      rcases (show n3 = 0 ∨ n3 = 1 ∨ n3 = 2 ∨ n3 = 3 by omega) with rfl | rfl | rfl | rfl
      all_goals
        refine ⟨_, _, rfl, sqL gD3, fun p4 H4 f4 s4 g4 => ?_⟩
        tm_at "rzs"
        refine ⟨p4, _, rfl, sqL g4, fun p5 H5 f5 s5 g5 => ?_⟩
        refine k _ H5 ((((d1.trans d2).trans d3).same s4).same s5) (.tupN g5 ?_)
      · show 0 ≠ 4; decide
      · show 1 ≠ 4; decide
      · show 2 ≠ 4; decide
      · show 3 ≠ 4; decide
    refine iteF' (by rw [int_inj_dec]; exact decide_eq_false e2) ?_
    tm_at "rzs"
    intro p3 H3 f3 s3 g3
    have np3 : p3 ≠ s := d2.s.ne f3
    have hs3 := d2.s.same s3
    tm_at "rzs"
    intro n4 H4 d4 l4 u4
    have g34 := d4.app np3 g3
    have gD4 := d4.app nD (s3 _ _ gD2)
    tm_at "rzs"
    rcases (show n4 = 0 ∨ n4 = 1 by omega) with rfl | rfl
    all_goals
      refine ⟨_, _, _, rfl, rfl, g34, by decide, by decide, Nat.le_of_ble_eq_true rfl, fun p5 fp5 => ?_⟩
      refine ⟨_, _, _, _, rfl, rfl, Same.upd0 fp5 _ _ gD4, upd_same, Nat.le_of_ble_eq_true rfl, fun p6 H6 f6 s6 g6 => ?_⟩
      tm_at "rzs"
      refine ⟨p6, _, rfl, sqL g6, fun p7 H7 f7 s7 g7 => ?_⟩
      refine k _ H7 (((((d1.trans d2).same s3).trans d4).same ((Same.upd0 fp5).trans s6)).same s7) (.tupN g7 ?_)
    · show 5 ≠ 4; decide
    · show 6 ≠ 4; decide
end
end My
namespace My
open PySem PySem.Spec PyProof.Rows L2
section
variable {P : Program} {w : World} {K : PySem.W.Frag} {mg : Str → Option Value} {base : Heap}
def sp_w_no_stand (K : PySem.W.Frag) : Sp := fun vs H Q _ => ∃ (s : Addr), vs = [.ref s] ∧ Src H s ∧ ∀ (v : V) H', Dr s H H' → NoSt K H' v → Q v H'
theorem ok_w_no_stand (T : Tx K mg) : FnOk P w K mg base CX0 3 T.d_w_no_stand.f T.d_w_no_stand.fd ["_law_source_here"] (sp_w_no_stand K) := by
  refine T.d_w_no_stand.F.ok sc_w_no_stand (fun vs H Q E h => ?_) (fun cdv A outer s H vs Q E hr h => ?_)
  · obtain ⟨s, rfl, _⟩ := h
    rfl
  · obtain ⟨s, rfl, hs, k⟩ := h
    refine ⟨_, (pss_cons (ps_set (i := 1) sc_w_no_stand.nd rfl (Or.inl rfl) (pe_ix (ix_listK (K := K) rfl) (pe_lstA (pa_cons pe_str (pa_cons pe_str (pa_cons pe_str (pa_cons pe_str (pa_cons pe_str pa_nil)))))) (pe_call (ok_w_next T) (hr.mono (by decide)) (by rfl) T.d_w_next.g T.d_w_next.F.kp T.d_w_next.b .nil pass0 (pa_cons (pv 0) (pa_cons pe_int pa_nil))) (fun _ _ => rfl)))
      (pss_cons (ps_set (i := 2) sc_w_no_stand.nd rfl (Or.inl rfl) (pe_lstA (pa_cons pe_str (pa_cons (pe_op op_add_str (pv 1) pe_str) (pa_cons (pe_op op_add_str pe_str (pv 1)) (pa_cons (pe_upper (pv 1)) (pa_cons (pe_slice sl_str (pv 1) po_none (po_some (pe_un un_neg pe_int))) (pa_cons (pe_op op_add_str (pv 1) pe_str) (pa_cons pe_str (pa_cons pe_str (pa_cons (pe_tupA (pa_cons (pv 1) pa_nil)) (pa_cons (pe_lstA (pa_cons (pv 1) pa_nil)) pa_nil))))))))))))
      (pss_cons (ps_set (i := 2) sc_w_no_stand.nd rfl (Or.inl rfl) (pe_op (op_catK (K := K) rfl) (pv 2) (pe_lstA (pa_cons pe_int (pa_cons pe_int (pa_cons pe_bl (pa_cons pe_bl (pa_cons pe_dnewA (pa_cons (pe_tupA pa_nil) pa_nil)))))))))
      (pss_one (ps_ret (pe_ix (ix_listK (K := K) rfl) (pv 2) (pe_call (ok_w_next T) (hr.mono (by decide)) (by rfl) T.d_w_next.g T.d_w_next.F.kp T.d_w_next.b .nil pass0 (pa_cons (pv 0) (pa_cons (pe_callB (call_lenK (K := K) rfl) (by rfl) T.b_len (by decide +kernel) (pa_cons (pv 2) pa_nil)) pa_nil))) (fun _ _ => rfl))))))), ?_⟩
    tm_at "rzs"
    intro p1 H1 f1 s1 g1
    have np1 : p1 ≠ s := hs.ne f1
    have hs1 := hs.same s1
    tm_at "rzs"
    intro n2 H2 d2 l2 u2
    obtain ⟨x, hx, z, mz, rfl⟩ := pick5 (P := fun v => ∃ z ∈ stands5, v = sX z) l2 u2 (a := sX "start") (b := sX "end") (c := sX "middle") (d := sX "stretch") (e := sX "base") ⟨_, by decide, rfl⟩ ⟨_, by decide, rfl⟩ ⟨_, by decide, rfl⟩ ⟨_, by decide, rfl⟩ ⟨_, by decide, rfl⟩
    refine ⟨_, _, _, _, rfl, rfl, sqL (d2.app np1 g1), hx, ?_⟩
    have hz := st_len mz
    obtain ⟨t1, t2, t3, t4, t5⟩ := st_no mz
    dsimp only [gName]
    tm_at "rzs"
    have b1 : (Str.ofString " ").length = 1 := by decide +kernel
    have b2 : (Str.ofString "s").length = 1 := by decide +kernel
    have big : 9 ≤ sizeLine := Nat.le_of_ble_eq_true rfl
    refine ⟨by omega, ?_⟩
    tm_at "rzs"
    refine ⟨⟨_, rfl⟩, _, rfl, rfl, by omega, ?_⟩
    tm_at "rzs"
    intro p3 H3 f3 s3 g3
    tm_at "rzs"
    intro p4 H4 f4 s4 g4
    tm_at "rzs"
    intro p5 H5 f5 s5 g5
    tm_at "rzs"
    intro p6 H6 f6 s6 g6
    tm_at "rzs"
    intro p7 H7 f7 s7 g7
    tm_at "rzs"
    intro p8 H8 f8 s8 g8
    have q5 := s8 _ _ (s7 _ _ (s6 _ _ g5))
    refine ⟨_, _, _, _, rfl, rfl, q5, g8, Nat.le_of_ble_eq_true rfl, fun p9 H9 f9 s9 g9 => ?_⟩
    have s29 := ((((((s3.trans s4).trans s5).trans s6).trans s7).trans s8).trans s9)
    have hs9 := d2.s.same s29
    have np9 : p9 ≠ s := (d2.s.same ((((((s3.trans s4).trans s5).trans s6).trans s7).trans s8))).ne f9
    dsimp only [gName]
    refine ⟨_, rfl, ?_⟩
    refine ⟨_, rfl, ?_⟩
    refine ⟨_, rfl, ?_⟩
    refine ⟨_, _, rfl, .inl ⟨_, sqL g9, rfl⟩, ?_⟩
    refine ⟨_, _, rfl, hs9, (show (0 : Int) < 16 by decide), (show (16 : Int) < 2 ^ 64 by decide), fun n10 H10 d10 l10 u10 => ?_⟩
    have u10 : n10 < 16 := u10
    have g3' := s9 _ _ (s8 _ _ (s7 _ _ (s6 _ _ (s5 _ _ (s4 _ _ g3)))))
    have g4' := s9 _ _ (s8 _ _ (s7 _ _ (s6 _ _ (s5 _ _ g4))))
    have g6' := s9 _ _ (s8 _ _ (s7 _ _ g6))
    have g7' := s9 _ _ (s8 _ _ g7)
    have hj : ∀ y ∈ [sX "", V.str (Str.ofString z ++ Str.ofString " "), .str (Str.ofString " " ++ Str.ofString z), .str (Txt.upper (Str.ofString z)), .str (cutS (Str.ofString z) none (some (-1))), .str (Str.ofString z ++ Str.ofString "s"), sX "between", sX "center", .ref p3, .ref p4] ++ [V.int 0, .int 1, .bl true, .bl false, .ref p6, .ref p7], NoSt K H9 y := fun y m => by
      simp only [List.cons_append, List.nil_append, List.mem_cons, List.not_mem_nil, or_false] at m
      rcases m with rfl | rfl | rfl | rfl | rfl | rfl | rfl | rfl | rfl | rfl | rfl | rfl | rfl | rfl | rfl | rfl
      · exact ⟨_, .str _, by decide, by decide, by decide +kernel⟩
      · exact ⟨_, .str _, by decide, by decide, t1⟩
      · exact ⟨_, .str _, by decide, by decide, t2⟩
      · exact ⟨_, .str _, by decide, by decide, t3⟩
      · exact ⟨_, .str _, by decide, by decide, t4⟩
      · exact ⟨_, .str _, by decide, by decide, t5⟩
      · exact ⟨_, .str _, by decide, by decide, by decide +kernel⟩
      · exact ⟨_, .str _, by decide, by decide, by decide +kernel⟩
      · exact ⟨_, .tup g3', by decide, by decide, rfl⟩
      · exact ⟨_, .lst g4', by decide, by decide, rfl⟩
      · exact ⟨_, .int _, by decide, by decide, rfl⟩
      · exact ⟨_, .int _, by decide, by decide, rfl⟩
      · exact ⟨_, .bl _, by decide, by decide, rfl⟩
      · exact ⟨_, .bl _, by decide, by decide, rfl⟩
      · exact ⟨_, .dK g6', by decide, by decide, rfl⟩
      · exact ⟨_, .tup g7', by decide, by decide, rfl⟩
    obtain ⟨v, hv, jv⟩ := pickA (P := NoSt K H9) hj l10 u10
    refine ⟨_, _, _, _, rfl, rfl, sqL (d10.app np9 g9), hv, ?_⟩
    exact k v H10 ((((Dr.of hs s1).trans d2).same s29).trans d10) (jv.keep (Dr.keep d10 hs9))
end
end My
namespace My
open PySem PySem.Spec PyProof.Rows L2
section
variable {P : Program} {w : World} {K : PySem.W.Frag} {mg : Str → Option Value} {base : Heap}
def sp_w_spoilt (K : PySem.W.Frag) : Sp := fun vs H Q _ => ∃ (s : Addr) (i : Nat), vs = [.ref s, .int (i : Int)] ∧ i < 10 ∧ Src H s ∧ ∀ (v : V) H', Dr s H H' → FB K H' i v false → Q v H'
theorem ok_w_spoilt (T : Tx K mg) : FnOk P w K mg base CX0 8 T.d_w_spoilt.f T.d_w_spoilt.fd ["_law_source_here", "_law_at"] (sp_w_spoilt K) := by
  refine T.d_w_spoilt.F.ok sc_w_spoilt (fun vs H Q E h => ?_) (fun cdv A outer s H vs Q E hr h => ?_)
  · obtain ⟨s, i, rfl, _⟩ := h
    rfl
  · obtain ⟨s, i, rfl, hi, hs, k⟩ := h
    refine ⟨_, (pss_cons (ps_if (pt_cmpR op_lt (pv 1) pe_int (nomark _))
      (pss_one (ps_ret (pe_call (ok_w_no_size T) (hr.mono (by decide)) (by rfl) T.d_w_no_size.g T.d_w_no_size.F.kp T.d_w_no_size.b .nil pass0 (pa_cons (pv 0) pa_nil))))
      pss_nil)
      (pss_cons (ps_if (pt_cmpR op_lt (pv 1) pe_int (nomark _))
      (pss_one (ps_ret (pe_call (ok_w_no_count T) (hr.mono (by decide)) (by rfl) T.d_w_no_count.g T.d_w_no_count.F.kp T.d_w_no_count.b .nil pass0 (pa_cons (pv 0) pa_nil))))
      pss_nil)
      (pss_cons (ps_if (pt_cmpR op_lt (pv 1) pe_int (nomark _))
      (pss_one (ps_ret (pe_ix (ix_listK (K := K) rfl) (pe_lstA (pa_cons (pe_call (ok_w_no_count T) (hr.mono (by decide)) (by rfl) T.d_w_no_count.g T.d_w_no_count.F.kp T.d_w_no_count.b .nil pass0 (pa_cons (pv 0) pa_nil)) (pa_cons pe_non pa_nil))) (pe_callTy call_int1 (by rfl) T.b_int (by decide +kernel) (pa_cons (pe_cmpR op_eq (pe_call (ok_w_next T) (hr.mono (by decide)) (by rfl) T.d_w_next.g T.d_w_next.F.kp T.d_w_next.b .nil pass0 (pa_cons (pv 0) (pa_cons pe_int pa_nil))) pe_int (nomark _)) pa_nil)) (fun _ _ => rfl))))
      pss_nil)
      (pss_cons (ps_if (pt_cmpR op_eq (pv 1) pe_int (nomark _))
      (pss_one (ps_ret (pe_call (ok_w_no_rims T) (hr.mono (by decide)) (by rfl) T.d_w_no_rims.g T.d_w_no_rims.F.kp T.d_w_no_rims.b .nil pass0 (pa_cons (pv 0) pa_nil))))
      pss_nil)
      (pss_one (ps_ret (pe_call (ok_w_no_stand T) (hr.mono (by decide)) (by rfl) T.d_w_no_stand.g T.d_w_no_stand.F.kp T.d_w_no_stand.b .nil pass0 (pa_cons (pv 0) pa_nil)))))))), ?_⟩
    tm_at "rds"
    by_cases h2 : i < 2
    · refine iteT' (decide_eq_true (by omega)) ?_
      tm_at "rzs"
      intro v H1 d1 jv
      refine k v H1 d1 ?_
      rcases (show i = 0 ∨ i = 1 by omega) with rfl | rfl <;> exact .inr ⟨rfl, jv⟩
    refine iteF' (decide_eq_false (by omega)) ?_
    tm_at "rds"
    by_cases h6 : i < 6
    · refine iteT' (decide_eq_true (by omega)) ?_
      tm_at "rzs"
      intro v H1 d1 jv
      refine k v H1 d1 ?_
      rcases (show i = 2 ∨ i = 3 ∨ i = 4 ∨ i = 5 by omega) with rfl | rfl | rfl | rfl <;> exact jv.bd
    refine iteF' (decide_eq_false (by omega)) ?_
    tm_at "rds"
    by_cases h8 : i < 8
    · refine iteT' (decide_eq_true (by omega)) ?_
      tm_at "rzs"
      intro v H1 d1 jv
      tm_at "rzs"
      intro p2 H2 f2 s2 g2
      have np2 : p2 ≠ s := d1.s.ne f2
      have hs2 := d1.s.same s2
      tm_at "rzs"
      intro n3 H3 d3 l3 u3
      tm_at "rzs"
      have hf : FB K H2 i v false := by
        rcases (show i = 6 ∨ i = 7 by omega) with rfl | rfl
        · exact jv.ct.keep (Same.keep s2)
        · exact jv.ct.keep (Same.keep s2)
      have hn : FB K H2 i .non false := by
        rcases (show i = 6 ∨ i = 7 by omega) with rfl | rfl
        · exact ⟨_, .non, rfl⟩
        · exact ⟨_, .non, rfl⟩
      obtain ⟨m, em, m0, m1⟩ : ∃ m : Int, (if decide (V.int n3 = V.int 0) = true then (1 : Int) else 0) = m ∧ 0 ≤ m ∧ m < 2 := ⟨_, rfl, by split <;> decide, by split <;> decide⟩
      rw [em]
      obtain ⟨x, hx, hb⟩ := pick2 (P := fun x => FB K H2 i x false) m0 m1 hf hn
      refine ⟨_, _, _, _, rfl, rfl, sqL (d3.app np2 g2), hx, ?_⟩
      exact k x H3 ((d1.same s2).trans d3) (hb.keep (Dr.keep d3 hs2))
    refine iteF' (decide_eq_false (by omega)) ?_
    tm_at "rds"
    by_cases h9 : i = 8
    · refine iteT' (by rw [int_inj_dec]; exact decide_eq_true (by omega)) ?_
      tm_at "rzs"
      intro v H1 d1 jv
      subst h9
      exact k v H1 d1 (.inr ⟨rfl, jv⟩)
    refine iteF' (by rw [int_inj_dec]; exact decide_eq_false (by omega)) ?_
    tm_at "rzs"
    intro v H1 d1 jv
    obtain rfl : i = 9 := by omega
    exact k v H1 d1 jv.st
end
end My
namespace My
open PySem PySem.Spec PyProof.Rows L2
section
variable {P : Program} {w : World} {K : PySem.W.Frag} {mg : Str → Option Value} {base : Heap}
def sp_w_all (K : PySem.W.Frag) (C N : Addr) : Sp := fun vs H Q E => ∃ (p : Addr) (fs : List V) (bs : List Bool), vs = [.ref p] ∧ H p = some (.lst fs) ∧ FBL K H fs bs ∧
  ∀ H', Same H H' → (bs.all id = true → ∀ (x dx : Addr), H x = none → H' x = some (.ins C dx (styL fs)) → Q (.ref x) H') ∧ (bs.all id = false → E (.ref N) none H')
theorem ok_w_all (T : Tx K mg) : FnOk P w K mg base (L2N.CX P w) 6 T.d_w_all.f T.d_w_all.fd ["_law_values_here"] (sp_w_all K T.c_Style.C T.e_NoStyle.C) := by
  refine T.d_w_all.F.okN sc_w_all (fun vs H Q E h => ?_) (fun cdv A outer s H vs Q E hr h => ?_)
  · obtain ⟨p, fs, bs, rfl, _⟩ := h
    rfl
  · obtain ⟨p, fs, bs, rfl, hp, hv, k⟩ := h
    obtain ⟨w, h, lw, lh, mw, mh, g, s', r, st, rfl⟩ := ten hv.1
    refine ⟨_, (pss_cons (ps_asg (pe_slice (sl_listK (K := K) rfl) (pv 0) po_none (po_some pe_int)) (pg_unl (by rfl) (pgs_cons (pg_name (i := 1) sc_w_all.nd rfl (Or.inl rfl)) (pgs_cons (pg_name (i := 2) sc_w_all.nd rfl (Or.inl rfl)) (pgs_cons (pg_name (i := 3) sc_w_all.nd rfl (Or.inl rfl)) (pgs_cons (pg_name (i := 4) sc_w_all.nd rfl (Or.inl rfl)) (pgs_cons (pg_name (i := 5) sc_w_all.nd rfl (Or.inl rfl)) pgs_nil)))))))
      (pss_cons (ps_asg (pe_slice (sl_listK (K := K) rfl) (pv 0) (po_some pe_int) po_none) (pg_unl (by rfl) (pgs_cons (pg_name (i := 6) sc_w_all.nd rfl (Or.inl rfl)) (pgs_cons (pg_name (i := 7) sc_w_all.nd rfl (Or.inl rfl)) (pgs_cons (pg_name (i := 8) sc_w_all.nd rfl (Or.inl rfl)) (pgs_cons (pg_name (i := 9) sc_w_all.nd rfl (Or.inl rfl)) (pgs_cons (pg_name (i := 10) sc_w_all.nd rfl (Or.inl rfl)) pgs_nil)))))))
      (pss_one (ps_ret (pe_makeK0 T.d_Style_init.mks (ok_Style_init T) (hr.mono (by decide)) (by rfl) T.c_Style.g (Classical.choose_spec (kb_Style_init_1_wide_high_least_wide_least_high_most_wide_most_high_grow_shrink_rims_stand T)) (L2N.passes_call (L2N.takes_of rfl rfl rfl rfl) (fun _ _ _ _ h => h)) (pk_cons (pv 1) (pk_cons (pv 2) (pk_cons (pv 3) (pk_cons (pv 4) (pk_cons (pv 5) (pk_cons (pv 6) (pk_cons (pv 7) (pk_cons (pv 8) (pk_cons (pv 9) (pk_cons (pv 10) pk_nil))))))))))))))), ?_⟩
    tm_at "rzs"
    refine ⟨_, _, rfl, sqL hp, fun p1 H1 f1 s1 g1 => ?_⟩
    refine ⟨p1, _, rfl, sqL g1, rfl, ?_⟩
    tm_at "rzs"
    have hp1 := s1 _ _ hp
    refine ⟨_, _, rfl, sqL hp1, fun p2 H2 f2 s2 g2 => ?_⟩
    refine ⟨p2, _, rfl, sqL g2, rfl, ?_⟩
    have s02 := s1.trans s2
    have hv2 := hv.keep (Same.keep s02)
    tm_at "rzs"
    refine mk_b hv2 fun H3 s3 => ⟨fun e x dx fx g3 => ?_, fun e => ?_⟩
    · exact (k H3 (s02.trans s3)).1 e x dx (s02.free fx) g3
    · exact (k H3 (s02.trans s3)).2 e
end
end My
namespace My
open PySem PySem.Spec PyProof.Rows L2
section
variable {P : Program} {w : World} {K : PySem.W.Frag} {mg : Str → Option Value} {base : Heap}
def sp_w_alone (K : PySem.W.Frag) (N : Addr) : Sp := fun vs H Q E => ∃ (i : Nat) (v : V) (b : Bool), vs = [.int (i : Int), v] ∧ i < 10 ∧ FB K H i v b ∧ ∀ H', Same H H' → (b = true → ∀ (x : Addr), H x = none → Q (.ref x) H') ∧ (b = false → E (.ref N) none H')
theorem ok_w_alone (T : Tx K mg) : FnOk P w K mg base (L2N.CX P w) 6 T.d_w_alone.f T.d_w_alone.fd ["_law_at", "_law_value"] (sp_w_alone K T.e_NoStyle.C) := by
  refine T.d_w_alone.F.okN sc_w_alone (fun vs H Q E h => ?_) (fun cdv A outer s H vs Q E hr h => ?_)
  · obtain ⟨i, v, b, rfl, _⟩ := h
    rfl
  · obtain ⟨i, v, b, rfl, hi, hv, k⟩ := h
    refine ⟨_, (pss_cons (ps_if (pt_cmpR op_eq (pv 0) pe_int (nomark _))
      (pss_one (ps_ret (pe_makeK0 T.d_Style_init.mks (ok_Style_init T) (hr.mono (by decide)) (by rfl) T.c_Style.g (Classical.choose_spec (kb_Style_init_1_wide T)) (L2N.passes_call (L2N.takes_of rfl rfl rfl rfl) (fun _ _ _ _ h => h)) (pk_cons (pv 1) pk_nil))))
      pss_nil)
      (pss_cons (ps_if (pt_cmpR op_eq (pv 0) pe_int (nomark _))
      (pss_one (ps_ret (pe_makeK0 T.d_Style_init.mks (ok_Style_init T) (hr.mono (by decide)) (by rfl) T.c_Style.g (Classical.choose_spec (kb_Style_init_1_high T)) (L2N.passes_call (L2N.takes_of rfl rfl rfl rfl) (fun _ _ _ _ h => h)) (pk_cons (pv 1) pk_nil))))
      pss_nil)
      (pss_cons (ps_if (pt_cmpR op_eq (pv 0) pe_int (nomark _))
      (pss_one (ps_ret (pe_makeK0 T.d_Style_init.mks (ok_Style_init T) (hr.mono (by decide)) (by rfl) T.c_Style.g (Classical.choose_spec (kb_Style_init_1_least_wide T)) (L2N.passes_call (L2N.takes_of rfl rfl rfl rfl) (fun _ _ _ _ h => h)) (pk_cons (pv 1) pk_nil))))
      pss_nil)
      (pss_cons (ps_if (pt_cmpR op_eq (pv 0) pe_int (nomark _))
      (pss_one (ps_ret (pe_makeK0 T.d_Style_init.mks (ok_Style_init T) (hr.mono (by decide)) (by rfl) T.c_Style.g (Classical.choose_spec (kb_Style_init_1_least_high T)) (L2N.passes_call (L2N.takes_of rfl rfl rfl rfl) (fun _ _ _ _ h => h)) (pk_cons (pv 1) pk_nil))))
      pss_nil)
      (pss_cons (ps_if (pt_cmpR op_eq (pv 0) pe_int (nomark _))
      (pss_one (ps_ret (pe_makeK0 T.d_Style_init.mks (ok_Style_init T) (hr.mono (by decide)) (by rfl) T.c_Style.g (Classical.choose_spec (kb_Style_init_1_most_wide T)) (L2N.passes_call (L2N.takes_of rfl rfl rfl rfl) (fun _ _ _ _ h => h)) (pk_cons (pv 1) pk_nil))))
      pss_nil)
      (pss_cons (ps_if (pt_cmpR op_eq (pv 0) pe_int (nomark _))
      (pss_one (ps_ret (pe_makeK0 T.d_Style_init.mks (ok_Style_init T) (hr.mono (by decide)) (by rfl) T.c_Style.g (Classical.choose_spec (kb_Style_init_1_most_high T)) (L2N.passes_call (L2N.takes_of rfl rfl rfl rfl) (fun _ _ _ _ h => h)) (pk_cons (pv 1) pk_nil))))
      pss_nil)
      (pss_cons (ps_if (pt_cmpR op_eq (pv 0) pe_int (nomark _))
      (pss_one (ps_ret (pe_makeK0 T.d_Style_init.mks (ok_Style_init T) (hr.mono (by decide)) (by rfl) T.c_Style.g (Classical.choose_spec (kb_Style_init_1_grow T)) (L2N.passes_call (L2N.takes_of rfl rfl rfl rfl) (fun _ _ _ _ h => h)) (pk_cons (pv 1) pk_nil))))
      pss_nil)
      (pss_cons (ps_if (pt_cmpR op_eq (pv 0) pe_int (nomark _))
      (pss_one (ps_ret (pe_makeK0 T.d_Style_init.mks (ok_Style_init T) (hr.mono (by decide)) (by rfl) T.c_Style.g (Classical.choose_spec (kb_Style_init_1_shrink T)) (L2N.passes_call (L2N.takes_of rfl rfl rfl rfl) (fun _ _ _ _ h => h)) (pk_cons (pv 1) pk_nil))))
      pss_nil)
      (pss_cons (ps_if (pt_cmpR op_eq (pv 0) pe_int (nomark _))
      (pss_one (ps_ret (pe_makeK0 T.d_Style_init.mks (ok_Style_init T) (hr.mono (by decide)) (by rfl) T.c_Style.g (Classical.choose_spec (kb_Style_init_1_rims T)) (L2N.passes_call (L2N.takes_of rfl rfl rfl rfl) (fun _ _ _ _ h => h)) (pk_cons (pv 1) pk_nil))))
      pss_nil)
      (pss_one (ps_ret (pe_makeK0 T.d_Style_init.mks (ok_Style_init T) (hr.mono (by decide)) (by rfl) T.c_Style.g (Classical.choose_spec (kb_Style_init_1_stand T)) (L2N.passes_call (L2N.takes_of rfl rfl rfl rfl) (fun _ _ _ _ h => h)) (pk_cons (pv 1) pk_nil))))))))))))), ?_⟩
    match i, hi, hv, k with
    | 0, _, hv, k =>
      tm_at "rzs"
      exact mk_one (i := 0) (by decide) T.t_NO_RIMS hv fun H3 s3 => ⟨fun e x fx => (k H3 s3).1 e x fx, (k H3 s3).2⟩
    | 1, _, hv, k =>
      tm_at "rzs"
      exact mk_one (i := 1) (by decide) T.t_NO_RIMS hv fun H3 s3 => ⟨fun e x fx => (k H3 s3).1 e x fx, (k H3 s3).2⟩
    | 2, _, hv, k =>
      tm_at "rzs"
      exact mk_one (i := 2) (by decide) T.t_NO_RIMS hv fun H3 s3 => ⟨fun e x fx => (k H3 s3).1 e x fx, (k H3 s3).2⟩
    | 3, _, hv, k =>
      tm_at "rzs"
      exact mk_one (i := 3) (by decide) T.t_NO_RIMS hv fun H3 s3 => ⟨fun e x fx => (k H3 s3).1 e x fx, (k H3 s3).2⟩
    | 4, _, hv, k =>
      tm_at "rzs"
      exact mk_one (i := 4) (by decide) T.t_NO_RIMS hv fun H3 s3 => ⟨fun e x fx => (k H3 s3).1 e x fx, (k H3 s3).2⟩
    | 5, _, hv, k =>
      tm_at "rzs"
      exact mk_one (i := 5) (by decide) T.t_NO_RIMS hv fun H3 s3 => ⟨fun e x fx => (k H3 s3).1 e x fx, (k H3 s3).2⟩
    | 6, _, hv, k =>
      tm_at "rzs"
      exact mk_one (i := 6) (by decide) T.t_NO_RIMS hv fun H3 s3 => ⟨fun e x fx => (k H3 s3).1 e x fx, (k H3 s3).2⟩
    | 7, _, hv, k =>
      tm_at "rzs"
      exact mk_one (i := 7) (by decide) T.t_NO_RIMS hv fun H3 s3 => ⟨fun e x fx => (k H3 s3).1 e x fx, (k H3 s3).2⟩
    | 8, _, hv, k =>
      tm_at "rzs"
      exact mk_one (i := 8) (by decide) T.t_NO_RIMS hv fun H3 s3 => ⟨fun e x fx => (k H3 s3).1 e x fx, (k H3 s3).2⟩
    | 9, _, hv, k =>
      tm_at "rzs"
      exact mk_one (i := 9) (by decide) T.t_NO_RIMS hv fun H3 s3 => ⟨fun e x fx => (k H3 s3).1 e x fx, (k H3 s3).2⟩
    | n + 10, hi, _, _ => exact absurd hi (by omega)
end
end My
namespace My
open PySem PySem.Spec PyProof.Rows L2
section
variable {P : Program} {w : World} {K : PySem.W.Frag} {mg : Str → Option Value} {base : Heap}
def sp_w_only (D : Addr) : Addr → Value → Option Addr → Sp := fun a cls d vs H Q _ => vs = [.ref a] ∧ cls = .ref D ∧ d = none ∧ ∀ H', Same H H' → Q (.bl true) H'
theorem ok_w_only (T : Tx K mg) : FnX P w K mg base CX0 3 T.d_w_only.f T.d_w_only.fd ["_law_e"] (sp_w_only T.e_NoStyle.C) := by
  refine fnX_of T.d_w_only.F sc_w_only (fun a cls d vs H Q E h => ?_) (fun cdv A outer s H vs Q E p cls d hot hz hr h => ?_)
  · obtain ⟨rfl, _⟩ := h
    rfl
  · obtain ⟨rfl, rfl, rfl, k⟩ := h
    refine ⟨_, (pss_cons (ps_set (i := 1) sc_w_only.nd rfl (Or.inl rfl) (pe_lstA (pa_cons (pe_callB (call_isXd (List.mem_singleton.mpr rfl) hz hot.2) (by rfl) T.b_isinstance (by decide +kernel) (pa_cons (pv 0) (pa_cons (pe_glob (v := .ref T.e_NoName.C) (by rfl) T.e_NoName.g rfl) pa_nil))) (pa_cons (pe_callB (call_isXd (List.mem_singleton.mpr rfl) hz hot.2) (by rfl) T.b_isinstance (by decide +kernel) (pa_cons (pv 0) (pa_cons (pe_glob (v := .ref T.e_NoNumber.C) (by rfl) T.e_NoNumber.g rfl) pa_nil))) (pa_cons (pe_callB (call_isXd (List.mem_singleton.mpr rfl) hz hot.2) (by rfl) T.b_isinstance (by decide +kernel) (pa_cons (pv 0) (pa_cons (pe_glob (v := .ref T.e_NoText.C) (by rfl) T.e_NoText.g rfl) pa_nil))) (pa_cons (pe_callB (call_isXd (List.mem_singleton.mpr rfl) hz hot.2) (by rfl) T.b_isinstance (by decide +kernel) (pa_cons (pv 0) (pa_cons (pe_glob (v := .ref T.e_NoBox.C) (by rfl) T.e_NoBox.g rfl) pa_nil))) pa_nil))))))
      (pss_cons (ps_set (i := 1) sc_w_only.nd rfl (Or.inl rfl) (pe_op (op_catK (K := K) rfl) (pv 1) (pe_lstA (pa_cons (pe_callB (call_isXd (List.mem_singleton.mpr rfl) hz hot.2) (by rfl) T.b_isinstance (by decide +kernel) (pa_cons (pv 0) (pa_cons (pe_glob (v := .ref T.e_NoStand.C) (by rfl) T.e_NoStand.g rfl) pa_nil))) (pa_cons (pe_callB (call_isXd (List.mem_singleton.mpr rfl) hz hot.2) (by rfl) T.b_isinstance (by decide +kernel) (pa_cons (pv 0) (pa_cons (pe_glob (v := .ref T.e_NoTree.C) (by rfl) T.e_NoTree.g rfl) pa_nil))) (pa_cons (pe_callB (call_isXd (List.mem_singleton.mpr rfl) hz hot.2) (by rfl) T.b_isinstance (by decide +kernel) (pa_cons (pv 0) (pa_cons (pe_glob (v := .ref T.e_NoTruth.C) (by rfl) T.e_NoTruth.g rfl) pa_nil))) (pa_cons (pe_callB (call_isXd (List.mem_singleton.mpr rfl) hz hot.2) (by rfl) T.b_isinstance (by decide +kernel) (pa_cons (pv 0) (pa_cons (pe_glob (v := .ref T.e_NoRow.C) (by rfl) T.e_NoRow.g rfl) pa_nil))) pa_nil)))))))
      (pss_one (ps_ret (pe_and (pe_callB (call_isXd (List.mem_singleton.mpr rfl) hz hot.2) (by rfl) T.b_isinstance (by decide +kernel) (pa_cons (pv 0) (pa_cons (pe_glob (v := .ref T.e_NoStyle.C) (by rfl) T.e_NoStyle.g rfl) pa_nil))) (pe_and (pe_callB (call_isXd (List.mem_singleton.mpr rfl) hz hot.2) (by rfl) T.b_isinstance (by decide +kernel) (pa_cons (pv 0) (pa_cons (pe_bltn (v := .ty "ValueError") (by rfl) T.b_ValueError (by decide +kernel) rfl) pa_nil))) (pe_one (pe_not (pe_callB (cr_anyHK (K := K) ⟨p, hot, List.mem_singleton.mpr rfl⟩ rfl) (by rfl) T.b_any (by decide +kernel) (pa_cons (pv 1) pa_nil)))))))))), ?_⟩
    tm_at "rzs"
    refine ⟨_, _, _, _, rfl, rfl, T.e_NoStyle.E, rfl, fun u r => r, T.e_NoStyle.kitC T.e_NoName T.s_NoStyle T.i_NoName, ?_⟩
    tm_at "rzs"
    refine ⟨_, _, _, _, rfl, rfl, T.e_NoStyle.E, rfl, fun u r => r, T.e_NoStyle.kitC T.e_NoNumber T.s_NoStyle T.i_NoNumber, ?_⟩
    tm_at "rzs"
    refine ⟨_, _, _, _, rfl, rfl, T.e_NoStyle.E, rfl, fun u r => r, T.e_NoStyle.kitC T.e_NoText T.s_NoStyle T.i_NoText, ?_⟩
    tm_at "rzs"
    refine ⟨_, _, _, _, rfl, rfl, T.e_NoStyle.E, rfl, fun u r => r, T.e_NoStyle.kitC T.e_NoBox T.s_NoStyle T.i_NoBox, ?_⟩
    tm_at "rzs"
    intro p1 H1 f1 s1 g1
    tm_at "rzs"
    refine ⟨_, _, _, _, rfl, rfl, T.e_NoStyle.E, rfl, fun u r => r, T.e_NoStyle.kitC T.e_NoStand T.s_NoStyle T.i_NoStand, ?_⟩
    tm_at "rzs"
    refine ⟨_, _, _, _, rfl, rfl, T.e_NoStyle.E, rfl, fun u r => r, T.e_NoStyle.kitC T.e_NoTree T.s_NoStyle T.i_NoTree, ?_⟩
    tm_at "rzs"
    refine ⟨_, _, _, _, rfl, rfl, T.e_NoStyle.E, rfl, fun u r => r, T.e_NoStyle.kitC T.e_NoTruth T.s_NoStyle T.i_NoTruth, ?_⟩
    tm_at "rzs"
    refine ⟨_, _, _, _, rfl, rfl, T.e_NoStyle.E, rfl, fun u r => r, T.e_NoStyle.kitC T.e_NoRow T.s_NoStyle T.i_NoRow, ?_⟩
    tm_at "rzs"
    intro p2 H2 f2 s2 g2
    have g12 := s2 _ _ g1
    tm_at "rzs"
    refine ⟨_, _, _, _, rfl, rfl, g12, g2, Nat.le_of_ble_eq_true rfl, fun p3 H3 f3 s3 g3 => ?_⟩
    tm_at "rzs"
    refine ⟨_, _, _, _, rfl, rfl, T.e_NoStyle.E, rfl, fun u r => r, T.e_NoStyle.kit T.e_NoStyle T.s_NoStyle T.s_NoStyle, ?_⟩
    tm_at "rzs"
    refine ⟨_, _, _, _, rfl, rfl, T.e_NoStyle.E, rfl, fun u r => r, T.e_NoStyle.kitT T.v_NoStyle, ?_⟩
    tm_at "rzs"
    refine ⟨p3, [false, false, false, false, false, false, false, false], rfl, sqL g3, ?_⟩
    tm_at "rzs"
    exact k H3 ((s1.trans s2).trans s3)
end
end My
namespace My
open PySem PySem.Spec PyProof.Rows L2
section
variable {P : Program} {w : World} {K : PySem.W.Frag} {mg : Str → Option Value} {base : Heap}
def sp_w_refused (K : PySem.W.Frag) : Sp := fun vs H Q _ => ∃ (p : Addr) (a : V) (fs : List V) (bs : List Bool) (b : Bool), vs = [.ref p, a] ∧ H p = some (.lst fs) ∧ FBL K H fs bs ∧ ((a = .non ∧ b = bs.all id) ∨ ∃ i : Nat, a = .int (i : Int) ∧ i < 10 ∧ bs[i]? = some b) ∧ ∀ H', Same H H' → Q (.bl (!b)) H'
theorem ok_w_refused (T : Tx K mg) : FnOk P w K mg base CX0 7 T.d_w_refused.f T.d_w_refused.fd ["_law_values_here", "_law_at"] (sp_w_refused K) := by
  refine T.d_w_refused.F.ok sc_w_refused (fun vs H Q E h => ?_) (fun cdv A outer s H vs Q E hr h => ?_)
  · obtain ⟨p, a, fs, bs, b, rfl, _⟩ := h
    rfl
  · obtain ⟨p, a, fs, bs, b, rfl, hp, hv, ha, k⟩ := h
    refine ⟨_, (pss_cons (L2N.ps_try_as (i := 2) rfl rfl sc_w_refused.nd rfl rfl ⟨rfl, by decide, Or.inl T.e_NestError.g⟩ takes0N (fun W pn xe tk po =>
      (pss_one (ps_if (pt_cmpR op_isN (pv 1) pe_non (nomark _))
      (pss_one (ps_expr (pe_callS (ok_w_all T) (hr.mono (by decide)) (by rfl) T.d_w_all.g T.d_w_all.F.kp T.d_w_all.b (fun σ => L2N.passAt tk σ) (pa_cons (pv 0) pa_nil))))
      (pss_one (ps_expr (pe_callS (ok_w_alone T) (hr.mono (by decide)) (by rfl) T.d_w_alone.g T.d_w_alone.F.kp T.d_w_alone.b (fun σ => L2N.passAt tk σ) (pa_cons (pv 1) (pa_cons (pe_ix (ix_listK (K := K) rfl) (pv 0) (pv 1) (fun _ _ => rfl)) pa_nil))))))))
      (fun a oe cls d pn hz hf =>
      (pss_one (ps_ret (pe_callX (E := fun _ => E0) (ok_w_only T) (hr.mono (by decide)) hz hf (by rfl) T.d_w_only.g T.d_w_only.F.kp T.d_w_only.b (fun σ _ _ _ _ _ _ h => h.elim) (pa_cons (pv 2) pa_nil))))))
      (pss_one (ps_ret pe_bl))), ?_⟩
    rcases ha with ⟨rfl, rfl⟩ | ⟨i, rfl, hi, hb⟩
    · tm_at "rzs"
      refine ⟨p, fs, bs, rfl, hp, hv, fun H1 s1 => ⟨fun e x dx fx g => ?_, fun e => ?_⟩⟩
      · tm_at "rzs"
        have := k H1 s1
        rw [e] at this
        exact this
      · refine ⟨true, T.e_NestError.exm T.r_NoStyle, fun _ ae hae => ?_, fun q => Bool.noConfusion q⟩
        tm_at "rds"
        exact fun H2 s2 => by have := k H2 (s1.trans s2); rw [e] at this; exact this
    · tm_at "rzs"
      obtain ⟨v, hv1⟩ : ∃ v, fs[i]? = some v := ⟨_, List.getElem?_eq_getElem (by rw [hv.1]; exact hi)⟩
      refine ⟨_, _, _, _, rfl, rfl, sqL hp, atK hv1, ?_⟩
      refine ⟨i, v, b, rfl, hi, hv.2.2 i v b hv1 hb, fun H1 s1 => ⟨fun e x fx => ?_, fun e => ?_⟩⟩
      · tm_at "rzs"
        have := k H1 s1
        rw [e] at this
        exact this
      · refine ⟨true, T.e_NestError.exm T.r_NoStyle, fun _ ae hae => ?_, fun q => Bool.noConfusion q⟩
        tm_at "rds"
        exact fun H2 s2 => by have := k H2 (s1.trans s2); rw [e] at this; exact this
end
end My
namespace My
open PySem PySem.Spec PyProof.Rows L2
section
variable {P : Program} {w : World} {K : PySem.W.Frag} {mg : Str → Option Value} {base : Heap}
def sp_law (K : PySem.W.Frag) : Sp := fun vs H Q _ => ∃ (a : Addr) (ns : List Int), vs = [.ref a] ∧ SqL K H a (ns.map V.int) ∧ ns.length ≤ 63 ∧ ∀ H', Q (.bl true) H'
theorem ok_law (T : Tx K mg) : FnOk P w K mg base CX0 9 T.d_law.f T.d_law.fd ["_law_script"] (sp_law K) := by
  refine T.d_law.F.ok sc_law (fun vs H Q E h => ?_) (fun cdv A outer s H vs Q E hr h => ?_)
  · obtain ⟨a, s, rfl, _⟩ := h
    rfl
  · obtain ⟨a, ns, rfl, hS, hl, k⟩ := h
    refine ⟨_, (pss_cons (ps_for PassesOwn.never (by rfl) (pi_range1 (by rfl) T.b_range (pa_cons (pe_callB (call_max2 rfl) (by rfl) T.b_max (by decide +kernel) (pa_cons pe_int (pa_cons (pe_callB (call_min2 rfl) (by rfl) T.b_min (by decide +kernel) (pa_cons pe_int (pa_cons (pe_callB (call_lenK (K := K) rfl) (by rfl) T.b_len (by decide +kernel) (pa_cons (pv 0) pa_nil)) pa_nil))) pa_nil))) pa_nil)) (pg_name (i := 1) sc_law.nd rfl (Or.inl rfl))
      (pss_cons (ps_set (i := 2) sc_law.nd rfl (Or.inr rfl) (pe_call (ok_w_source T) (hr.mono (by decide)) (by rfl) T.d_w_source.g T.d_w_source.F.kp T.d_w_source.b .nil pass0 (pa_cons (pe_call (ok_w_cell_at T) (hr.mono (by decide)) (by rfl) T.d_w_cell_at.g T.d_w_cell_at.F.kp T.d_w_cell_at.b .nil pass0 (pa_cons (pv 0) (pa_cons (pv 1) pa_nil))) pa_nil)))
      (pss_cons (ps_setLc (i := 3) (own := [("_law_j", 9)]) (g := gName 9) (by rfl) sc_law.nd rfl rfl (sw_true rfl rfl rfl (by decide +kernel)) (pi_range1 (by rfl) T.b_range (pa_cons (pe_op op_add pe_int (pe_op op_fdivW (pe_call (ok_w_next T) (hr.mono (by decide)) (by rfl) T.d_w_next.g T.d_w_next.F.kp T.d_w_next.b .nil pass0 (pa_cons (pv 2) (pa_cons pe_int pa_nil))) pe_int)) pa_nil)) (blkOk_by (own := [("_law_j", 9)]) (N := N_law) (sc := defScope s_law) (by decide +kernel)) (fun _ _ _ _ _ => (pg_name (i := 9) sc_law.nd rfl (Or.inl rfl))) (fun _ _ _ _ _ => pts_nil) (fun _ _ _ _ _ => (pe_call (ok_w_next T) (hr.mono (by decide)) (by rfl) T.d_w_next.g T.d_w_next.F.kp T.d_w_next.b .nil pass0 (pa_cons (pv 2) (pa_cons pe_int pa_nil)))))
      (pss_cons (ps_setLc (i := 5) (own := [("_law_at", 4)]) (g := gName 4) (by rfl) sc_law.nd rfl rfl (sw_true rfl rfl rfl (by decide +kernel)) (pi_listK (K := K) rfl (pv 3)) (blkOk_by (own := [("_law_at", 4)]) (N := N_law) (sc := defScope s_law) (by decide +kernel)) (fun _ _ _ _ _ => (pg_name (i := 4) sc_law.nd rfl (Or.inl rfl))) (fun _ _ _ _ _ => pts_nil) (fun _ _ _ _ _ => (pe_call (ok_w_spoilt T) (hr.mono (by decide)) (by rfl) T.d_w_spoilt.g T.d_w_spoilt.F.kp T.d_w_spoilt.b .nil pass0 (pa_cons (pv 2) (pa_cons (pv 4) pa_nil)))))
      (pss_cons (ps_set (i := 6) sc_law.nd rfl (Or.inl rfl) (pe_call (ok_w_values T) (hr.mono (by decide)) (by rfl) T.d_w_values.g T.d_w_values.F.kp T.d_w_values.b .nil pass0 (pa_cons (pv 2) pa_nil)))
      (pss_cons (ps_set (i := 7) sc_law.nd rfl (Or.inl rfl) (pe_callTy (call_listK (K := K) rfl) (by rfl) T.b_list (by decide +kernel) (pa_cons (pv 6) pa_nil)))
      (pss_cons (ps_for PassesOwn.never (by rfl) (pi_zipK (K := K) rfl (by rfl) T.b_zip (pa_cons (pv 3) (pa_cons (pv 5) pa_nil))) (pg_tup (by rfl) (pgs_cons (pg_name (i := 4) sc_law.nd rfl (Or.inl rfl)) (pgs_cons (pg_name (i := 8) sc_law.nd rfl (Or.inl rfl)) pgs_nil)))
      (pss_one (ps_asg (pv 8) (pg_sub (pv 7) (pv 4) set_listA))))
      (pss_cons (ps_if (pt_cmpR (op_neIK (K := K) rfl (ok_Style_eq T) (hr.mono (by decide)) T.wm T.d_Style_eq.s T.k_ne T.d_Style_eq.n T.d_Style_eq.b pass0) (pe_call (ok_w_all T) (hr.mono (by decide)) (by rfl) T.d_w_all.g T.d_w_all.F.kp T.d_w_all.b .nil passLN (pa_cons (pv 6) pa_nil)) (pe_call (ok_w_all T) (hr.mono (by decide)) (by rfl) T.d_w_all.g T.d_w_all.F.kp T.d_w_all.b .nil passLN (pa_cons (pv 6) pa_nil)) (nomark _))
      (pss_one (ps_ret pe_bl))
      pss_nil)
      (pss_cons (ps_if (PW.pt (pw_or (pt_not (pt_val (pe_call (ok_w_refused T) (hr.mono (by decide)) (by rfl) T.d_w_refused.g T.d_w_refused.F.kp T.d_w_refused.b .nil pass0 (pa_cons (pv 7) (pa_cons pe_non pa_nil))))) (pw_or1 (pt_not (pt_val (pe_call (ok_w_refused T) (hr.mono (by decide)) (by rfl) T.d_w_refused.g T.d_w_refused.F.kp T.d_w_refused.b .nil pass0 (pa_cons (pv 7) (pa_cons (pe_ix (ix_listK (K := K) rfl) (pv 3) pe_int (fun _ _ => rfl)) pa_nil))))))))
      (pss_one (ps_ret pe_bl))
      pss_nil)
      (pss_one (ps_if (PW.pt (pw_or (pt_val (pe_call (ok_w_refused T) (hr.mono (by decide)) (by rfl) T.d_w_refused.g T.d_w_refused.F.kp T.d_w_refused.b .nil pass0 (pa_cons (pv 6) (pa_cons pe_non pa_nil)))) (pw_or1 (pt_val (pe_call (ok_w_refused T) (hr.mono (by decide)) (by rfl) T.d_w_refused.g T.d_w_refused.F.kp T.d_w_refused.b .nil pass0 (pa_cons (pv 6) (pa_cons (pe_ix (ix_listK (K := K) rfl) (pv 3) pe_int (fun _ _ => rfl)) pa_nil)))))))
      (pss_one (ps_ret pe_bl))
      pss_nil)))))))))))
      (pss_one (ps_ret pe_bl))), ?_⟩
    tm_at "rzs"
    obtain ⟨N, hN, hN2⟩ : ∃ N : Nat, ((if (if (((ns.map V.int).length : Nat) : Int) < 12 then (((ns.map V.int).length : Nat) : Int) else 12) > 1 then (if (((ns.map V.int).length : Nat) : Int) < 12 then (((ns.map V.int).length : Nat) : Int) else 12) else 1) : Int).toNat = N ∧ N ≤ 12 := by
      refine ⟨_, rfl, ?_⟩
      split
      · split <;> omega
      · decide
    rw [hN]
    refine for_range (lo := 0) (n := N) (fun i σ H' => ∃ (v1 v2 v3 v4 v5 v6 v7 v8 v9 : Option V), σ = [some (.ref a), v1, v2, v3, v4, v5, v6, v7, v8, v9] ∧ SqL K H' a (ns.map V.int))
      ⟨_, _, _, _, _, _, _, _, _, rfl, hS⟩ ?_ ?_
    · rintro i σ H4 hi ⟨v1, v2, v3, v4, v5, v6, v7, v8, v9, rfl, hS4⟩
      dsimp only [gName]
      tm_at "rzs"
      refine ⟨a, ns, i, by rw [Int.zero_add]; rfl, hS4, hl, fun z => ?_⟩
      tm_at "rzs"
      intro s H5 f5 s5 g5
      have hs5 : Src H5 s := ⟨_, g5⟩
      have hA : ∀ H', Dr s H5 H' → SqL K H' a (ns.map V.int) := by
        by_cases e : a = s
        · subst e
          rcases hS4 with (h | ⟨o, h⟩) | h
          · rw [f5] at h; cases h
          · rw [f5] at h; cases h
          · exact fun _ _ => .inr h
        · exact fun H' d => d.seq e (s5.seq hS4)
      dsimp only [gName]
      tm_at "rzs"
      intro n6 H6 d6 l6 u6
      have hs6 := d6.s
      tm_at "rzs"
      refine fun D hD => lcRd (lo := 0) (n := (1 + n6 / 2).toNat) (s := s) (fun n : Nat => V.int (n : Int)) (fun _ n => n < 10) hs6 hD (by omega) (fun j H7 Kt Kf hj d7 kt => ?_) (fun cs H7 d7 lcs rcs nD gD => ?_)
      · have hs7 := d7.s
        tm_at "rzs"
        intro n8 H8 d8 l8 u8
        obtain ⟨m, rfl⟩ := Int.eq_ofNat_of_zero_le l8
        exact kt m H8 d8 (by omega)
      dsimp only [gName]
      have hs7 := d7.s
      have lc3 : 1 ≤ cs.length ∧ cs.length ≤ 3 := by omega
      tm_at "rzs"
      refine ⟨⟨_, sqL gD⟩, fun D2 hD2 => lcLo (K := K) (s := s) (ρ0 := fun n : Nat => V.int (n : Int)) (ys := cs) (fun j v H => FB K H (cs.getD j 0) v false) (fun j v H H' h kp => h.keep kp) hs7 hD2 nD (sqL gD) (by omega) (fun j y H8 Kt Kf hy d8 kt => ?_) (fun bs H8 d8 lbs rbs nD2 gD2 => ?_)⟩
      · have hs8 := d8.s
        have ey : cs.getD j 0 = y := by rw [List.getD_eq_getElem?_getD, hy]; rfl
        tm_at "rzs"
        refine ⟨rcs j y hy, hs8, fun v H9 d9 hv => ?_⟩
        exact kt v H9 d9 (by rw [ey]; exact hv)
      dsimp only [gName]
      have hs8 := d8.s
      have gD8 := d8.app nD gD
      tm_at "rzs"
      intro p9 ra w h lw lh mw mh g sk st n0 n1 n2 n3 H9 d9 fp9 np9 gp9 gra hok
      dsimp only [gName]
      have hs9 := d9.s
      have gD9 := d9.app nD gD8
      have gD29 := d9.app nD2 gD2
      tm_at "rzs"
      refine ⟨p9, _, rfl, .inl (sqL gp9), fun pv H10 f10 s10 g10 => ?_⟩
      dsimp only [gName]
      have npv : pv ≠ s := hs9.ne f10
      have d9dr : Dr s H5 H9 := ((d6.trans d7).trans d8).trans d9
      have hok10 := hok.same s10
      have r810 : Keep H8 H10 := ⟨fun a o e n => s10 _ _ ((Dr.keep d9 hs8).1 a o e n), fun a xs e => let ⟨ys, q⟩ := (Dr.keep d9 hs8).2 a xs e; ⟨ys, s10 _ _ q⟩⟩
      have nDpv : D ≠ pv := ne_of_none gD9 f10
      have nD2pv : D2 ≠ pv := ne_of_none gD29 f10
      refine seq_key (M := fun σ H' => ∃ (fs : List V) (bs' : List Bool) (v4 v8 v9 : Option V), σ = [some (.ref a), some (.int (0 + (i : Int))), some (.ref s), some (.ref D), v4, some (.ref D2), some (.ref p9), some (.ref pv), v8, v9] ∧ Dr s H5 H' ∧ But pv H10 H' ∧ Keep H10 H' ∧ H' pv = some (.lst fs) ∧ FBL K H' fs bs' ∧ ∀ c ∈ cs, bs'[c]? = some false) ?_ (fun NN hNN => ?_)
      rotate_left
      · tm_at "rzs"
        refine ⟨D, D2, _, _, rfl, sqL (s10 _ _ gD9), sqL (s10 _ _ gD29), for_zip (K := K) (xs := cs.map fun n : Nat => V.int (n : Int)) (zs := bs) (by rw [List.length_map, lbs])
          (fun j σ H' => ∃ (fs : List V) (bs' : List Bool) (v4 v8 v9 : Option V), σ = [some (.ref a), some (.int (0 + (i : Int))), some (.ref s), some (.ref D), v4, some (.ref D2), some (.ref p9), some (.ref pv), v8, v9] ∧ Dr s H5 H' ∧ But pv H10 H' ∧ Keep H10 H' ∧ H' pv = some (.lst fs) ∧ FBL K H' fs bs' ∧ ∀ (j' c : Nat), j' < j → cs[j']? = some c → bs'[c]? = some false)
          ⟨_, _, _, _, _, rfl, ((((d6.trans d7).trans d8).trans d9).same s10), But.refl, Same.keep (Same.refl _), g10, hok10.fbl, fun j' c hj => absurd hj (Nat.not_lt_zero _)⟩ (fun j σ H' ⟨_, _, _, _, _, _, _, bb, _⟩ => ⟨sqL (bb _ _ nDpv (s10 _ _ gD9)), sqL (bb _ _ nD2pv (s10 _ _ gD29))⟩) ?_ ?_⟩
        · rintro j x y T1 σ H11 H12 hx hy ⟨fs, bs', v4, v8, v9, rfl, dd, bb, kk, gf, hf, hb⟩ nT sT gT
          obtain ⟨c, hc, rfl⟩ := of_map hx
          refine ⟨T1, _, rfl, sqT gT, rfl, ?_⟩
          tm_at "rzs"
          have k11 : Keep H10 H12 := kk.trans (Same.keep sT)
          have gf12 := sT _ _ gf
          have hy12 : FB K H12 c y false := by
            have e : cs.getD j 0 = c := by rw [List.getD_eq_getElem?_getD, hc]; rfl
            have := (rbs j y hy).keep (r810.trans k11)
            rw [e] at this
            exact this
          have c10 : c < 10 := rcs j c hc
          refine ⟨pv, fs, (c : Int), c, rfl, rfl, gf12, ixN_nat (by rw [hf.1]; exact c10), fun H13 b13 g13 => ?_⟩
          have kp : Keep H12 H13 := But.keepL b13 gf12 g13
          have h12 := (hf.keep (Same.keep sT)).set hy12
          refine ⟨fs.set c y, bs'.set c false, _, _, _, rfl, Dr.mut (dd.same sT) b13 (d9dr.free f10 npv) npv.symm, (bb.trans (Same.but sT)).trans b13, k11.trans kp, g13, h12.keep kp, fun j' c' hj' hc' => ?_⟩
          rw [List.getElem?_set]
          split
          · next e =>
            rw [if_pos (by rw [hf.2.1]; exact c10)]
          · next e =>
            by_cases hj2 : j' < j
            · exact hb j' c' hj2 hc'
            · have : j' = j := by omega
              subst this
              rw [hc] at hc'
              cases hc'
              exact absurd rfl e
        · rintro σ H11 ⟨fs, bs', v4, v8, v9, rfl, dd, bb, kk, gf, hf, hb⟩
          refine hNN _ _ ⟨fs, bs', v4, v8, v9, rfl, dd, bb, kk, gf, hf, fun c mc => ?_⟩
          obtain ⟨j', e⟩ := List.getElem?_of_mem mc
          exact hb j' c (by rw [List.length_map]; exact (List.getElem?_eq_some_iff.mp e).1) e
      rintro σ H11 ⟨fs, bs', v4, v8, v9, rfl, dd, bb, kk, gf, hf, hb⟩
      obtain ⟨c0, cs', rfl⟩ : ∃ c0 cs', cs = c0 :: cs' := by
        cases cs with
        | nil => exact absurd lc3.1 (by decide)
        | cons c l => exact ⟨c, l, rfl⟩
      have hc0 : c0 < 10 := rcs 0 c0 rfl
      have hb0 := hb c0 List.mem_cons_self
      have hok11 := hok10.keep kk
      have gp11 : H11 p9 = some (.lst [w, h, lw, lh, mw, mh, g, sk, .ref ra, st]) := bb _ _ (ne_of_none gp9 f10) (s10 _ _ gp9)
      have gD11 := bb _ _ nDpv (s10 _ _ gD9)
      tm_at "rds"
      refine ⟨p9, _, _, rfl, gp11, hok11.fbl, fun H12 s12 => ⟨fun _ x dx fx gx => ?_, fun e => by cases e⟩⟩
      tm_at "rds"
      refine ⟨p9, _, _, rfl, s12 _ _ gp11, (hok11.same s12).fbl, fun H13 s13 => ⟨fun _ y dy fy gy => ?_, fun e => by cases e⟩⟩
      have gx13 := s13 _ _ gx
      refine ⟨x, y, dx, dy, _, _, rfl, rfl, gx13, gy, x, y, dx, dy, _, rfl, gx13, gy, hok11.same (s12.trans s13), fun H14 s14 => ⟨true, rfl, ?_⟩⟩
      tm_at "rds"
      have s4 := (s12.trans s13).trans s14
      have gpv14 := s4 _ _ gf
      have gp14 := s4 _ _ gp11
      have gD14 := s4 _ _ gD11
      have hf14 := hf.keep (Same.keep s4)
      have ho14 := (hok11.same s4).fbl
      tm_at "rds"
      refine ⟨pv, .non, fs, bs', false, rfl, gpv14, hf14, .inl ⟨rfl, (all_bad hb0).symm⟩, fun H15 s15 => ?_⟩
      tm_at "rzs"
      have gD15 := s15 _ _ gD14
      refine ⟨_, _, _, _, rfl, rfl, sqL gD15, atI_nat (j := 0) (v := .int (c0 : Int)) rfl, ?_⟩
      tm_at "rzs"
      refine ⟨pv, .int (c0 : Int), fs, bs', false, rfl, s15 _ _ gpv14, hf14.keep (Same.keep s15), .inr ⟨c0, rfl, hc0, hb0⟩, fun H16 s16 => ?_⟩
      tm_at "rzs"
      have s416 := s15.trans s16
      refine ⟨p9, .non, _, _, true, rfl, s416 _ _ gp14, ho14.keep (Same.keep s416), .inl ⟨rfl, rfl⟩, fun H17 s17 => ?_⟩
      tm_at "rzs"
      have s417 := s416.trans s17
      refine ⟨_, _, _, _, rfl, rfl, sqL (s417 _ _ gD14), atI_nat (j := 0) (v := .int (c0 : Int)) rfl, ?_⟩
      tm_at "rzs"
      refine ⟨p9, .int (c0 : Int), _, _, true, rfl, s417 _ _ gp14, ho14.keep (Same.keep s417), .inr ⟨c0, rfl, hc0, ?_⟩, fun H18 s18 => ?_⟩
      · rw [List.getElem?_replicate, if_pos hc0]
      tm_at "rzs"
      exact ⟨_, _, _, _, _, _, _, _, _, rfl, hA _ (dd.same ((s4.trans s417).trans s18))⟩
    · rintro σ H4 ⟨v1, v2, v3, v4, v5, v6, v7, v8, v9, rfl, hS4⟩
      tm_at "rzs"
      exact k _
end
end My
namespace My
open PySem L2
theorem law_end {l : PySem.W.OpenLaw} {w : World} {K : PySem.W.Frag} {mg : Str → Option Value} {fa : Addr} (hfa : mg "law" = some (.ref fa)) (T : Tx K mg) :
    ∃ fd : FuncData, (∀ (s : Shared) (v : Value), BindsTo s fd ⟨[v], []⟩ [("_law_script", v)]) ∧ ∀ base : Heap, K.In base → base.Ns mainGlobals mg → FnOk l.prog w K mg base CX0 9 fa fd ["_law_script"] (sp_law K) := by
  have e := hfa.symm.trans T.d_law.g
  cases e
  refine ⟨T.d_law.fd, fun s v => ?_, fun base _ _ => ok_law T⟩
  obtain ⟨oc, od, kV, doc, pm, an, cdv, ct, osl, e, _, _⟩ := T.d_law.F.ex
  rw [e]
  exact .of_eq rfl
end My
open PySem PySem.W PyProof.Rows
set_option maxRecDepth 100000 in
set_option maxHeartbeats 0 in
theorem PySem.Challenge.cw_nestlaid_k16_styles_refused_holds : PySem.Challenge.rw_nestlaid_k16_styles_refused.Holds := by
  w_on; o_law; k_head; (case hw => w_witness2)
  k_fill
  refine L2.walk_of (l := PySem.Challenge.rw_nestlaid_k16_styles_refused) (n := 63) (k := 9) (x := "_law_script") (CX := fun _ => L2.CX0) (sp := fun w => My.sp_law _) rfl (by decide) rfl ⟨rfl, by decide, by decide⟩ (fun w h Y => PySem.W.kIn_of Y) ?F (fun _ _ a ns hl _ hS => ⟨a, ns, rfl, hS, hl, fun _ => rfl⟩) (fun _ _ _ _ _ h => h)
  case F =>
    intro w mg fa h KX G hmg
    refine' My.law_end hmg { U_NO_RIMS := _, U_SIDES := _, U_STANDS := _, U_LETTERS := _, U_LONGEST := _, c_Style := My.cl_mk KX G ?cStyle0 ?cStyle1 ?cStyle2 ?cStyle3 ?cStyle4, n_Style_wide := ?nStylewide, n_Style_high := ?nStylehigh, n_Style_least_wide := ?nStyleleast_wide, n_Style_least_high := ?nStyleleast_high, n_Style_most_wide := ?nStylemost_wide, n_Style_most_high := ?nStylemost_high, n_Style_grow := ?nStylegrow, n_Style_shrink := ?nStyleshrink, n_Style_rims := ?nStylerims, n_Style_stand := ?nStylestand, d_is_whole := My.df_mk KX G ?a1 ?l1 ?c1 ?k1 (fun _ _ _ _ _ _ us hl => match us, hl with | [_], _ => rfl), d_is_count := My.df_mk KX G ?a2 ?l2 ?c2 ?k2 (fun _ _ _ _ _ _ us hl => match us, hl with | [_], _ => rfl), d_is_name := My.df_mk KX G ?a3 ?l3 ?c3 ?k3 (fun _ _ _ _ _ _ us hl => match us, hl with | [_], _ => rfl), d_is_part := My.df_mk KX G ?a4 ?l4 ?c4 ?k4 (fun _ _ _ _ _ _ us hl => match us, hl with | [_], _ => rfl), d_is_tie := My.df_mk KX G ?a5 ?l5 ?c5 ?k5 (fun _ _ _ _ _ _ us hl => match us, hl with | [_], _ => rfl), d_is_size := My.df_mk KX G ?a6 ?l6 ?c6 ?k6 (fun _ _ _ _ _ _ us hl => match us, hl with | [_], _ => rfl), d_is_bound := My.df_mk KX G ?a7 ?l7 ?c7 ?k7 (fun _ _ _ _ _ _ us hl => match us, hl with | [_], _ => rfl), d_is_rims := My.df_mk KX G ?a8 ?l8 ?c8 ?k8 (fun _ _ _ _ _ _ us hl => match us, hl with | [_], _ => rfl), d_Style_init := My.ini_mk ?iStyle_init0 ?iStyle_init1 ?iStyle_init2 ?iStyle_init3 ?iStyle_init4 ?iStyle_init5 ?iStyle_init6 (.cons ?wStyle_init0 ?xStyle_init0 (.cons ?wStyle_init1 ?xStyle_init1 (.cons ?wStyle_init2 ?xStyle_init2 (.cons ?wStyle_init3 ?xStyle_init3 (.cons ?wStyle_init4 ?xStyle_init4 (.cons ?wStyle_init5 ?xStyle_init5 (.cons ?wStyle_init6 ?xStyle_init6 (.cons ?wStyle_init7 ?xStyle_init7 (.cons ?wStyle_init8 ?xStyle_init8 (.cons ?wStyle_init9 ?xStyle_init9 .nil)))))))))), d_Style_eq := My.mt_mk ?mStyle_eq0 ?mStyle_eq1 ?mStyle_eq2 ?mStyle_eq3 ?mStyle_eq4 (fun _ _ _ _ _ _ us hl => match us, hl with | [_, _], _ => rfl), d_told_fields := My.df_mk KX G ?a9 ?l9 ?c9 ?k9 (fun _ _ _ _ _ _ us hl => match us, hl with | [_], _ => rfl), d_shown_fields := My.df_mk KX G ?a10 ?l10 ?c10 ?k10 (fun _ _ _ _ _ _ us hl => match us, hl with | [_], _ => rfl), d_w_cell_at := My.df_mk KX G ?a11 ?l11 ?c11 ?k11 (fun _ _ _ _ _ _ us hl => match us, hl with | [_, _], _ => rfl), d_w_mixed := My.df_mk KX G ?a12 ?l12 ?c12 ?k12 (fun _ _ _ _ _ _ us hl => match us, hl with | [_, _], _ => rfl), d_w_source := My.df_mk KX G ?a13 ?l13 ?c13 ?k13 (fun _ _ _ _ _ _ us hl => match us, hl with | [_], _ => rfl), d_w_next := My.df_mk KX G ?a14 ?l14 ?c14 ?k14 (fun _ _ _ _ _ _ us hl => match us, hl with | [_, _], _ => rfl), d_w_name := My.df_mk KX G ?a15 ?l15 ?c15 ?k15 (fun _ _ _ _ _ _ us hl => match us, hl with | [_, _], _ => rfl), d_w_number := My.df_mk KX G ?a16 ?l16 ?c16 ?k16 (fun _ _ _ _ _ _ us hl => match us, hl with | [_], _ => rfl), d_w_size := My.df_mk KX G ?a17 ?l17 ?c17 ?k17 (fun _ _ _ _ _ _ us hl => match us, hl with | [_], _ => rfl), d_w_values := My.df_mk KX G ?a18 ?l18 ?c18 ?k18 (fun _ _ _ _ _ _ us hl => match us, hl with | [_], _ => rfl), d_w_no_count := My.df_mk KX G ?a19 ?l19 ?c19 ?k19 (fun _ _ _ _ _ _ us hl => match us, hl with | [_], _ => rfl), d_w_no_name := My.df_mk KX G ?a20 ?l20 ?c20 ?k20 (fun _ _ _ _ _ _ us hl => match us, hl with | [_], _ => rfl), d_w_no_size := My.df_mk KX G ?a21 ?l21 ?c21 ?k21 (fun _ _ _ _ _ _ us hl => match us, hl with | [_], _ => rfl), d_w_no_rims := My.df_mk KX G ?a22 ?l22 ?c22 ?k22 (fun _ _ _ _ _ _ us hl => match us, hl with | [_], _ => rfl), d_w_no_stand := My.df_mk KX G ?a23 ?l23 ?c23 ?k23 (fun _ _ _ _ _ _ us hl => match us, hl with | [_], _ => rfl), d_w_spoilt := My.df_mk KX G ?a24 ?l24 ?c24 ?k24 (fun _ _ _ _ _ _ us hl => match us, hl with | [_, _], _ => rfl), d_w_all := My.df_mk KX G ?a25 ?l25 ?c25 ?k25 (fun _ _ _ _ _ _ us hl => match us, hl with | [_], _ => rfl), d_w_alone := My.df_mk KX G ?a26 ?l26 ?c26 ?k26 (fun _ _ _ _ _ _ us hl => match us, hl with | [_, _], _ => rfl), d_w_only := My.df_mk KX G ?a27 ?l27 ?c27 ?k27 (fun _ _ _ _ _ _ us hl => match us, hl with | [_], _ => rfl), d_w_refused := My.df_mk KX G ?a28 ?l28 ?c28 ?k28 (fun _ _ _ _ _ _ us hl => match us, hl with | [_, _], _ => rfl), d_law := My.df_mk KX G ?a29 ?l29 ?c29 ?k29 (fun _ _ _ _ _ _ us hl => match us, hl with | [_], _ => rfl), b_ValueError := PySem.W.mg_none_of KX G ?z_ValueError, b_all := PySem.W.mg_none_of KX G ?z_all, b_any := PySem.W.mg_none_of KX G ?z_any, b_bool := PySem.W.mg_none_of KX G ?z_bool, b_int := PySem.W.mg_none_of KX G ?z_int, b_isinstance := PySem.W.mg_none_of KX G ?z_isinstance, b_len := PySem.W.mg_none_of KX G ?z_len, b_list := PySem.W.mg_none_of KX G ?z_list, b_max := PySem.W.mg_none_of KX G ?z_max, b_min := PySem.W.mg_none_of KX G ?z_min, b_range := PySem.W.mg_none_of KX G ?z_range, b_str := PySem.W.mg_none_of KX G ?z_str, b_tuple := PySem.W.mg_none_of KX G ?z_tuple, b_zip := PySem.W.mg_none_of KX G ?z_zip, v_NO_RIMS := PySem.W.mg_of KX G ?v_NO_RIMS, v_SIDES := PySem.W.mg_of KX G ?v_SIDES, v_STANDS := PySem.W.mg_of KX G ?v_STANDS, v_LETTERS := PySem.W.mg_of KX G ?v_LETTERS, v_LONGEST := PySem.W.mg_of KX G ?v_LONGEST, t_NO_RIMS := My.sqT_K ?tNO_RIMS0 ?tNO_RIMS1 ?tNO_RIMS2 ?tNO_RIMS3 ?tNO_RIMS4, t_SIDES := My.sqT_K ?tSIDES0 ?tSIDES1 ?tSIDES2 ?tSIDES3 ?tSIDES4, t_STANDS := My.sqT_K ?tSTANDS0 ?tSTANDS1 ?tSTANDS2 ?tSTANDS3 ?tSTANDS4, r_LETTERS := ?r_LETTERS, r_LONGEST := ?r_LONGEST, e_NestError := My.ex_mk KX G ?eNestError0 ?eNestError1 ?eNestError2 ?eNestError3 ?eNestError4 ?eNestError5 ?eNestError6 ?eNestError7 ?eNestError8 ?eNestError9 ?eNestError10 ?eNestError11, e_NoStyle := My.ex_mk KX G ?eNoStyle0 ?eNoStyle1 ?eNoStyle2 ?eNoStyle3 ?eNoStyle4 ?eNoStyle5 ?eNoStyle6 ?eNoStyle7 ?eNoStyle8 ?eNoStyle9 ?eNoStyle10 ?eNoStyle11, r_NoStyle := ?r_NoStyle, s_NoStyle := ?s_NoStyle, v_NoStyle := ?v_NoStyle, e_NoName := My.ec_mk KX G ?eNoName0 ?eNoName1 ?eNoName2, i_NoName := ?i_NoName, e_NoNumber := My.ec_mk KX G ?eNoNumber0 ?eNoNumber1 ?eNoNumber2, i_NoNumber := ?i_NoNumber, e_NoText := My.ec_mk KX G ?eNoText0 ?eNoText1 ?eNoText2, i_NoText := ?i_NoText, e_NoBox := My.ec_mk KX G ?eNoBox0 ?eNoBox1 ?eNoBox2, i_NoBox := ?i_NoBox, e_NoStand := My.ec_mk KX G ?eNoStand0 ?eNoStand1 ?eNoStand2, i_NoStand := ?i_NoStand, e_NoTree := My.ec_mk KX G ?eNoTree0 ?eNoTree1 ?eNoTree2, i_NoTree := ?i_NoTree, e_NoTruth := My.ec_mk KX G ?eNoTruth0 ?eNoTruth1 ?eNoTruth2, i_NoTruth := ?i_NoTruth, e_NoRow := My.ec_mk KX G ?eNoRow0 ?eNoRow1 ?eNoRow2, i_NoRow := ?i_NoRow, wc := ?wc, wg := ?wg, wt := ?wt, wm := ?wm, k_int := My.kit_ownT ?k_int, k_bool := My.kit_ownT ?k_bool, k_str := My.kit_ownT ?k_str, k_tuple := My.kit_ownT ?k_tuple, k_list := My.kit_ownT ?k_list, k_dict := ?k_dict, k_own := ?k_own, k_type := ?k_type, k_ne := ?k_ne }
    (case cStyle0 => k_is)
    (case cStyle1 => k_is)
    (case cStyle2 => k_is)
    (case cStyle3 => k_is)
    (case cStyle4 => k_is)
    (case nStylewide => dsimp only [My.cl_mk]; k_is)
    (case nStylehigh => dsimp only [My.cl_mk]; k_is)
    (case nStyleleast_wide => dsimp only [My.cl_mk]; k_is)
    (case nStyleleast_high => dsimp only [My.cl_mk]; k_is)
    (case nStylemost_wide => dsimp only [My.cl_mk]; k_is)
    (case nStylemost_high => dsimp only [My.cl_mk]; k_is)
    (case nStylegrow => dsimp only [My.cl_mk]; k_is)
    (case nStyleshrink => dsimp only [My.cl_mk]; k_is)
    (case nStylerims => dsimp only [My.cl_mk]; k_is)
    (case nStylestand => dsimp only [My.cl_mk]; k_is)
    (case a1 => k_is)
    (case l1 => k_is)
    (case c1 => k_is)
    (case k1 => k_is)
    (case a2 => k_is)
    (case l2 => k_is)
    (case c2 => k_is)
    (case k2 => k_is)
    (case a3 => k_is)
    (case l3 => k_is)
    (case c3 => k_is)
    (case k3 => k_is)
    (case a4 => k_is)
    (case l4 => k_is)
    (case c4 => k_is)
    (case k4 => k_is)
    (case a5 => k_is)
    (case l5 => k_is)
    (case c5 => k_is)
    (case k5 => k_is)
    (case a6 => k_is)
    (case l6 => k_is)
    (case c6 => k_is)
    (case k6 => k_is)
    (case a7 => k_is)
    (case l7 => k_is)
    (case c7 => k_is)
    (case k7 => k_is)
    (case a8 => k_is)
    (case l8 => k_is)
    (case c8 => k_is)
    (case k8 => k_is)
    (case iStyle_init0 => dsimp only [My.cl_mk]; k_is)
    (case iStyle_init1 => (try dsimp only [My.cl_mk]); k_is)
    (case iStyle_init2 => (try dsimp only [My.cl_mk]); k_is)
    (case iStyle_init3 => (try dsimp only [My.cl_mk]); k_is)
    (case iStyle_init4 => (try dsimp only [My.cl_mk]); k_is)
    (case iStyle_init5 => (try dsimp only [My.cl_mk]); k_is)
    (case iStyle_init6 => (try dsimp only [My.cl_mk]); k_is)
    (case wStyle_init0 => k_is)
    (case xStyle_init0 => first | exact rfl | exact ⟨_, rfl⟩)
    (case wStyle_init1 => k_is)
    (case xStyle_init1 => first | exact rfl | exact ⟨_, rfl⟩)
    (case wStyle_init2 => k_is)
    (case xStyle_init2 => first | exact rfl | exact ⟨_, rfl⟩)
    (case wStyle_init3 => k_is)
    (case xStyle_init3 => first | exact rfl | exact ⟨_, rfl⟩)
    (case wStyle_init4 => k_is)
    (case xStyle_init4 => first | exact rfl | exact ⟨_, rfl⟩)
    (case wStyle_init5 => k_is)
    (case xStyle_init5 => first | exact rfl | exact ⟨_, rfl⟩)
    (case wStyle_init6 => k_is)
    (case xStyle_init6 => first | exact rfl | exact ⟨_, rfl⟩)
    (case wStyle_init7 => k_is)
    (case xStyle_init7 => first | exact rfl | exact ⟨_, rfl⟩)
    (case wStyle_init8 => k_is)
    (case xStyle_init8 => first | exact rfl | exact ⟨_, rfl⟩)
    (case wStyle_init9 => k_is)
    (case xStyle_init9 => first | exact rfl | exact ⟨_, rfl⟩)
    (case mStyle_eq0 => dsimp only [My.cl_mk]; k_is)
    (case mStyle_eq1 => (try dsimp only [My.cl_mk]); k_is)
    (case mStyle_eq2 => (try dsimp only [My.cl_mk]); k_is)
    (case mStyle_eq3 => (try dsimp only [My.cl_mk]); k_is)
    (case mStyle_eq4 => (try dsimp only [My.cl_mk]); k_is)
    (case a9 => k_is)
    (case l9 => k_is)
    (case c9 => k_is)
    (case k9 => k_is)
    (case a10 => k_is)
    (case l10 => k_is)
    (case c10 => k_is)
    (case k10 => k_is)
    (case a11 => k_is)
    (case l11 => k_is)
    (case c11 => k_is)
    (case k11 => k_is)
    (case a12 => k_is)
    (case l12 => k_is)
    (case c12 => k_is)
    (case k12 => k_is)
    (case a13 => k_is)
    (case l13 => k_is)
    (case c13 => k_is)
    (case k13 => k_is)
    (case a14 => k_is)
    (case l14 => k_is)
    (case c14 => k_is)
    (case k14 => k_is)
    (case a15 => k_is)
    (case l15 => k_is)
    (case c15 => k_is)
    (case k15 => k_is)
    (case a16 => k_is)
    (case l16 => k_is)
    (case c16 => k_is)
    (case k16 => k_is)
    (case a17 => k_is)
    (case l17 => k_is)
    (case c17 => k_is)
    (case k17 => k_is)
    (case a18 => k_is)
    (case l18 => k_is)
    (case c18 => k_is)
    (case k18 => k_is)
    (case a19 => k_is)
    (case l19 => k_is)
    (case c19 => k_is)
    (case k19 => k_is)
    (case a20 => k_is)
    (case l20 => k_is)
    (case c20 => k_is)
    (case k20 => k_is)
    (case a21 => k_is)
    (case l21 => k_is)
    (case c21 => k_is)
    (case k21 => k_is)
    (case a22 => k_is)
    (case l22 => k_is)
    (case c22 => k_is)
    (case k22 => k_is)
    (case a23 => k_is)
    (case l23 => k_is)
    (case c23 => k_is)
    (case k23 => k_is)
    (case a24 => k_is)
    (case l24 => k_is)
    (case c24 => k_is)
    (case k24 => k_is)
    (case a25 => k_is)
    (case l25 => k_is)
    (case c25 => k_is)
    (case k25 => k_is)
    (case a26 => k_is)
    (case l26 => k_is)
    (case c26 => k_is)
    (case k26 => k_is)
    (case a27 => k_is)
    (case l27 => k_is)
    (case c27 => k_is)
    (case k27 => k_is)
    (case a28 => k_is)
    (case l28 => k_is)
    (case c28 => k_is)
    (case k28 => k_is)
    (case a29 => k_is)
    (case l29 => k_is)
    (case c29 => k_is)
    (case k29 => k_is)
    (case z_ValueError => k_is)
    (case z_all => k_is)
    (case z_any => k_is)
    (case z_bool => k_is)
    (case z_int => k_is)
    (case z_isinstance => k_is)
    (case z_len => k_is)
    (case z_list => k_is)
    (case z_max => k_is)
    (case z_min => k_is)
    (case z_range => k_is)
    (case z_str => k_is)
    (case z_tuple => k_is)
    (case z_zip => k_is)
    (case v_NO_RIMS => k_is)
    (case v_SIDES => k_is)
    (case v_STANDS => k_is)
    (case v_LETTERS => k_is)
    (case v_LONGEST => k_is)
    (case tNO_RIMS0 => k_is)
    (case tNO_RIMS1 => rfl)
    (case tNO_RIMS2 => rfl)
    (case tNO_RIMS3 => decide +kernel)
    (case tNO_RIMS4 => exact .cons ⟨_, rfl⟩ (.cons ⟨_, rfl⟩ (.cons ⟨_, rfl⟩ (.cons ⟨_, rfl⟩ (.nil)))))
    (case tSIDES0 => k_is)
    (case tSIDES1 => rfl)
    (case tSIDES2 => rfl)
    (case tSIDES3 => decide +kernel)
    (case tSIDES4 => exact .cons ⟨_, rfl⟩ (.cons ⟨_, rfl⟩ (.nil)))
    (case tSTANDS0 => k_is)
    (case tSTANDS1 => rfl)
    (case tSTANDS2 => rfl)
    (case tSTANDS3 => decide +kernel)
    (case tSTANDS4 => exact .cons ⟨_, rfl⟩ (.cons ⟨_, rfl⟩ (.cons ⟨_, rfl⟩ (.cons ⟨_, rfl⟩ (.cons ⟨_, rfl⟩ (.nil))))))
    (case r_LETTERS => exact ⟨_, rfl⟩)
    (case r_LONGEST => exact ⟨_, rfl⟩)
    (case eNestError0 => k_is)
    (case eNestError1 => k_exc)
    (case eNestError2 => k_is)
    (case eNestError3 => k_is)
    (case eNestError4 => k_is)
    (case eNestError5 => k_is)
    (case eNestError6 => k_is)
    (case eNestError7 => k_is)
    (case eNestError8 => k_is)
    (case eNestError9 => k_is)
    (case eNestError10 => k_is)
    (case eNestError11 => k_is)
    (case eNoStyle0 => k_is)
    (case eNoStyle1 => k_exc)
    (case eNoStyle2 => k_is)
    (case eNoStyle3 => k_is)
    (case eNoStyle4 => k_is)
    (case eNoStyle5 => k_is)
    (case eNoStyle6 => k_is)
    (case eNoStyle7 => k_is)
    (case eNoStyle8 => k_is)
    (case eNoStyle9 => k_is)
    (case eNoStyle10 => k_is)
    (case eNoStyle11 => k_is)
    (case r_NoStyle => (try dsimp only [My.ex_mk, My.ec_mk, My.cl_mk]); k_is)
    (case s_NoStyle => (try dsimp only [My.ex_mk, My.ec_mk, My.cl_mk]); k_is)
    (case v_NoStyle => (try dsimp only [My.ex_mk, My.ec_mk, My.cl_mk]); k_is)
    (case eNoName0 => k_is)
    (case eNoName1 => k_is)
    (case eNoName2 => k_is)
    (case i_NoName => (try dsimp only [My.ex_mk, My.ec_mk, My.cl_mk]); k_is)
    (case eNoNumber0 => k_is)
    (case eNoNumber1 => k_is)
    (case eNoNumber2 => k_is)
    (case i_NoNumber => (try dsimp only [My.ex_mk, My.ec_mk, My.cl_mk]); k_is)
    (case eNoText0 => k_is)
    (case eNoText1 => k_is)
    (case eNoText2 => k_is)
    (case i_NoText => (try dsimp only [My.ex_mk, My.ec_mk, My.cl_mk]); k_is)
    (case eNoBox0 => k_is)
    (case eNoBox1 => k_is)
    (case eNoBox2 => k_is)
    (case i_NoBox => (try dsimp only [My.ex_mk, My.ec_mk, My.cl_mk]); k_is)
    (case eNoStand0 => k_is)
    (case eNoStand1 => k_is)
    (case eNoStand2 => k_is)
    (case i_NoStand => (try dsimp only [My.ex_mk, My.ec_mk, My.cl_mk]); k_is)
    (case eNoTree0 => k_is)
    (case eNoTree1 => k_is)
    (case eNoTree2 => k_is)
    (case i_NoTree => (try dsimp only [My.ex_mk, My.ec_mk, My.cl_mk]); k_is)
    (case eNoTruth0 => k_is)
    (case eNoTruth1 => k_is)
    (case eNoTruth2 => k_is)
    (case i_NoTruth => (try dsimp only [My.ex_mk, My.ec_mk, My.cl_mk]); k_is)
    (case eNoRow0 => k_is)
    (case eNoRow1 => k_is)
    (case eNoRow2 => k_is)
    (case i_NoRow => (try dsimp only [My.ex_mk, My.ec_mk, My.cl_mk]); k_is)
    (case wc => (try dsimp only [My.ex_mk, My.ec_mk, My.cl_mk]); k_is)
    (case wg => (try dsimp only [My.ex_mk, My.ec_mk, My.cl_mk]); k_is)
    (case wt => (try dsimp only [My.ex_mk, My.ec_mk, My.cl_mk]); k_is)
    (case wm => (try dsimp only [My.ex_mk, My.ec_mk, My.cl_mk]); k_is)
    (case k_int => (try dsimp only [My.cl_mk]); k_is)
    (case k_bool => (try dsimp only [My.cl_mk]); k_is)
    (case k_str => (try dsimp only [My.cl_mk]); k_is)
    (case k_tuple => (try dsimp only [My.cl_mk]); k_is)
    (case k_list => (try dsimp only [My.cl_mk]); k_is)
    (case k_dict => (try dsimp only [My.ex_mk, My.ec_mk, My.cl_mk]); k_is)
    (case k_own => (try dsimp only [My.ex_mk, My.ec_mk, My.cl_mk]); k_is)
    (case k_type => (try dsimp only [My.ex_mk, My.ec_mk, My.cl_mk]); k_is)
    (case k_ne => (try dsimp only [My.ex_mk, My.ec_mk, My.cl_mk]); k_is)
#print axioms PySem.Challenge.cw_nestlaid_k16_styles_refused_holds
