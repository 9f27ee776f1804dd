import PyProof.Rows.All
import Wide.All
import OpenK.AllK
import Wide.FinOn
import HandS.ForMost
import HandS.ForExc
import HandS.Wide
import HandS.IsInst
import HandS.Defaults
import HandS.MakeKwOnly
import HandS.Flow
import HandS.EndBits
import HandS.Style
import HandS.Conv
import HandS.Deep
import HandS.Codes
import PyProof.StrOps2
import HandS.ReplaceLit
import HandS.Iter
import HandS.ExcIs
import HandS.ExcOwn
import HandS.WordsExc
import HandS.DeepEq
import HandS.Zip
import HandS.TupAny
import HandS.NoneIn
import HandS.HotCalls
import HandS.ExcCtx
import PyProof.Seq
import HandS.Text
import HandS.More
import PyProof.NeKinds
import PyProof.FactsAll.subtypes_4
import PyProof.FactsAll.dict_2
import PySem.Challenge.RW_nestlaid_k20_whole_spots_of_grids
set_option Elab.async false
set_option linter.all false
set_option maxRecDepth 100000
set_option maxHeartbeats 4000000
namespace My
open PySem PySem.Spec PyProof.Rows L2
/-! ### a def of the top, with its facts -/
structure Df (K : PySem.W.Frag) (mg : Str → Option Value) (x : Str) (st : Stmt) (ps : List Str) where
  f : Addr
  fd : FuncData
  F : Fun K x x st f fd
  b : Binds K fd ps []
  g : mg x = some (.ref f)
def df_mk {K : PySem.W.Frag} {mg : Str → Option Value} {x : Str} {st : Stmt} {ps : List Str} {h : Heap} (X : K.In h) (G : h.Ns mainGlobals mg) {f : Addr} {oc : Value} {od an : Option Addr} {osl : Array (Option Value)} {kV doc pm cdv ct : Value}
    (a : PySem.W.nsIn K mainGlobals x = some (some (.ref f))) (l : K.lookup f = some ⟨oc, od, .func (PySem.W.fnOf x x (defArgs st) (defBody st) (defScope st) .none kV doc pm an cdv ct), osl⟩)
    (c : PySem.W.codeIn K cdv x = true) (k : PySem.W.keepIn K (.ref f) = true)
    (hb : ∀ (kV doc pm : Value) (an : Option Addr) (cdv ct : Value) (us : List Value), us.length = ps.length → bindArgs (PySem.W.fnOf x x (defArgs st) (defBody st) (defScope st) .none kV doc pm an cdv ct) ⟨us, []⟩ = pure (ps.zip us)) : Df K mg x st ps :=
  ⟨f, _, fun_mk l c k, (fun_mk l c k).binds hb, PySem.W.mg_of X G a⟩
/-! ### calls by keywords alone -/
theorem vals_getD : ∀ {zs : List V} {ws : List Value}, Vals zs ws → ∀ i : Nat, RelV (zs.getD i .non) (ws.getD i .none)
  | _, _, .nil, i => rfl
  | _, _, .cons r t, 0 => r
  | _, _, .cons r t, i + 1 => by simpa using vals_getD t i
section
variable {X : Cx} {CX : CXT} {k n : Nat} {f C : Addr} {fd : FuncData} {ps ks : List Str} {sp : Sp} {E : XK} {x : Str} {p pos : Pos} {kws : List Keyword} {t tk : TA} {g : List Value → List Value → List Value} {gV : List V → List V → List V}
/-- f(k = v, ..) -/
theorem pe_callN0 (F : FnOk X.prog X.w X.K X.mg X.base CX k f fd ps sp) (hr : Room k X.A) (hg : Gl X x) (hm : X.mg x = some (.ref f)) (hk : PySem.W.keepIn X.K (.ref f) = true) (hb : KBn X.K fd ps 0 ks g gV) (hx : Passes CX X E) (hkw : PK X kws tk)
    (hall : (backToKw pos (keywordEach kws X.env)).all (·.1.isSome) = true := by rfl) (hks : (backToKw pos (keywordEach kws X.env)).filterMap (·.1) = ks := by rfl) (hdb : (x == ("__debug__" : Str)) = false := by decide)
    (hpl : ((backTo pos (starEach [] X.env)).any (·.1) || (backToKw pos (keywordEach kws X.env)).any (·.1.isNone)) = false := by rfl) :
    PE X (.Call (.Name x p) [] kws pos) (tCallN 0 ks.length sp gV E tNil tk) := by
  refine ⟨fun pins s σ H Q I h => ?_⟩
  refine wpAny_Call_Name_kw (ld_glob I hg hm ?_ hdb)
  refine PySem.W.callWith_KW0 (h₀ := X.base) I.ok.mod.kin hk hall ?_ hpl
  refine thn (hkw.run pos pins s σ H _ I h) fun ws s2 ⟨zs, H2, I2, rz, l1, l2, q2⟩ => ⟨I2.kIn, ?_⟩
  rw [hks]
  exact run_fnN (us := []) (vs := []) F hr hb hx I2 .nil rz rfl l2 q2
end
/-! ### heaps -/
/-- all that was tracked but at a is as it was -/
def But (a : Addr) (H H' : Hp) : Prop := ∀ b o, b ≠ a → H b = some o → H' b = some o
theorem But.app {a b : Addr} {H H' : Hp} {o : HO} (s : But a H H') (n : b ≠ a) (h : H b = some o) : H' b = some o := s _ _ n h
theorem But.refl {a : Addr} {H : Hp} : But a H H := fun _ _ _ h => h
theorem But.trans {a : Addr} {H H1 H2 : Hp} (s : But a H H1) (t : But a H1 H2) : But a H H2 := fun b o n h => t b o n (s b o n h)
theorem But.upd {a : Addr} {H H1 : Hp} {o : HO} (s : But a H H1) : But a H (upd H1 a o) := fun b u n h => by
  rw [upd_ne n]
  exact s b u n h
theorem But.new {a p : Addr} {H H1 : Hp} {o : HO} (s : But a H H1) (h : H1 p = none) : But a H (L2.upd H1 p o) := fun b u n e => by
  have e1 := s b u n e
  rw [upd_ne (ne_of_none e1 h)]
  exact e1
theorem Same.but {a : Addr} {H H1 : Hp} (s : Same H H1) : But a H H1 := fun b u n h => s b u h
theorem Same.app {b : Addr} {H H' : Hp} {o : HO} (s : Same H H') (h : H b = some o) : H' b = some o := s _ _ h
theorem Same.new {H H1 : Hp} {p : Addr} {o : HO} (s : Same H H1) (h : H1 p = none) : Same H (upd H1 p o) := fun b u e => by
  have e1 := s b u e
  rw [upd_ne (ne_of_none e1 h)]
  exact e1
theorem Same.mut {H H1 : Hp} {p : Addr} {o : HO} (s : Same H H1) (h : H p = none) : Same H (upd H1 p o) := fun b u e => by
  rw [upd_ne (ne_of_none e h)]
  exact s b u e
theorem But.seq {K : PySem.W.Frag} {H H' : Hp} {a b : Addr} {xs : List V} (e : But a H H') (n : b ≠ a) (h : SqL K H b xs) : SqL K H' b xs := by
  rcases h with (h | ⟨o, h⟩) | h
  · exact .inl (.inl (e _ _ n h))
  · exact .inl (.inr ⟨o, e _ _ n h⟩)
  · exact .inr h
theorem upd_keep {H : Hp} {a p : Addr} {o u : HO} (n : H p = none) (h : H a = some o) : upd H p u a = some o := (upd_ne (ne_of_none h n)).trans h
theorem Same.upd0 {H : Hp} {p : Addr} {o : HO} (n : H p = none) : Same H (upd H p o) := fun b u e => upd_keep n e
theorem sqL {K : PySem.W.Frag} {H : Hp} {a : Addr} {xs : List V} (h : H a = some (.lst xs)) : SqL K H a xs := .inl (.inl h)
theorem sqT {K : PySem.W.Frag} {H : Hp} {a : Addr} {xs : List V} (h : H a = some (.tup xs)) : SqT K H a xs := .inl (.inl h)
/-! ### new and changed objects, the heap behind them by a name -/
def New (H : Hp) (o : HO) (Q : VK) : Prop := ∀ p H', H p = none → Same H H' → H' p = some o → Q (.ref p) H'
theorem New.go {H : Hp} {o : HO} {Q : VK} (h : New H o Q) : ∀ p, H p = none → Q (.ref p) (upd H p o) := fun p n => h p _ n (Same.upd0 n) upd_same
/-- what stands at l becomes o -/
def Set1 (H : Hp) (l : Addr) (o : HO) (q : Hp → Prop) : Prop := ∀ H', But l H H' → H' l = some o → q H'
theorem Set1.go {H : Hp} {l : Addr} {o : HO} {q : Hp → Prop} (h : Set1 H l o q) : q (upd H l o) := h _ But.refl.upd upd_same
theorem pe_imp {X : Cx} {e : Expr} {t t' : TE} (h : PE X e t) (i : ∀ σ H Q, t' σ H Q → t σ H Q) : PE X e t' := ⟨fun pins s σ H Q I h' => h.run pins s σ H Q I (i _ _ _ h')⟩
theorem opR_imp {X : Cx} {f : Value → Value → Sem Value} {r r' : R2} (h : OpR X f r) (i : ∀ x y H Q, r' x y H Q → r x y H Q) : OpR X f r' := fun pins s σ H x y v u Q I rx ry q => h pins s σ H x y v u Q I rx ry (i _ _ _ _ q)
theorem callR_imp {X : Cx} {f : Value} {r r' : List V → Hp → VK → Prop} (h : CallR X f r) (i : ∀ xs H Q, r' xs H Q → r xs H Q) : CallR X f r' := fun pins s σ H xs us Q I rx q => h pins s σ H xs us Q I rx (i _ _ _ q)
theorem slR_imp {X : Cx} {r r' : V → Option Int → Option Int → Hp → VK → Prop} (h : SlR X r) (i : ∀ x lo hi H Q, r' x lo hi H Q → r x lo hi H Q) : SlR X r' := fun pins s σ H x v vl vu lo hi sl Q I rx a b c q => h pins s σ H x v vl vu lo hi sl Q I rx a b c (i _ _ _ _ _ q)
theorem mtM_imp {X : Cx} {id : String} {r r' : V → List V → Hp → VK → Prop} (h : MtM X id r) (i : ∀ x xs H Q, r' x xs H Q → r x xs H Q) : MtM X id r' := fun pins s σ H x xs v us Q I rx rv q => h pins s σ H x xs v us Q I rx rv (i _ _ _ _ q)
theorem pSet_imp {X : Cx} {r r' : TSet} (h : PSet X r) (i : ∀ x y z H Q, r' x y z H Q → r x y z H Q) : PSet X r' := fun pins s σ H o i' v ov iv u Q I a b c q => h pins s σ H o i' v ov iv u Q I a b c (i _ _ _ _ _ q)
section
variable {X : Cx} {es : List Expr} {t : TA} {pos : Pos}
/-- a tuple, a list -/
def tTupA (t : TA) : TE := fun σ H Q => t σ H fun xs H1 => xs.length ≤ sizeLine ∧ New H1 (.tup xs) Q
def tLstA (t : TA) : TE := fun σ H Q => t σ H fun xs H1 => xs.length ≤ sizeLine ∧ New H1 (.lst xs) Q
theorem pe_tupA {x1} (h : PA X es t) : PE X (.Tuple es x1 pos) (tTupA t) := by
  refine ⟨fun pins s σ H Q I hq => ?_⟩
  refine wpAny_Tuple_spliced (thn (h.run pos pins s σ H _ I hq) fun us s1 ⟨xs, H1, I1, r, z, q⟩ => ⟨by rw [← r.length]; exact z, ?_⟩)
  have hf : H1 s1.heap.objs.size = none := I1.hok.fresh (Nat.le_refl _)
  refine ⟨.ref s1.heap.objs.size, upd H1 s1.heap.objs.size (.tup xs), I1.laid (t' := s1.toks) (fun b u e => Heap.get?_push_of_some _ e) (Nat.le_refl _) ?_, rfl, q.go _ hf⟩
  exact ⟨z, us, r, ⟨_, Heap.get?_push_size _ rfl, rfl, _, rfl⟩⟩
theorem pe_lstA (h : PA X es t) : PE X (.List es pos) (tLstA t) := by
  refine ⟨fun pins s σ H Q I hq => ?_⟩
  refine wpAny_List_spliced (thn (h.run pos pins s σ H _ I hq) fun us s1 ⟨xs, H1, I1, r, z, q⟩ => ⟨by rw [← r.length]; exact z, ?_⟩)
  have hf : H1 s1.heap.objs.size = none := I1.hok.fresh (Nat.le_refl _)
  refine ⟨.ref s1.heap.objs.size, upd H1 s1.heap.objs.size (.lst xs), I1.laid (t' := s1.toks) (fun b u e => Heap.get?_push_of_some _ e) (Nat.le_refl _) ?_, rfl, q.go _ hf⟩
  exact ⟨z, us, 0, r, Heap.get?_push_size _ rfl⟩
def tDNewA : TE := fun _ H Q => New H (.dK []) Q
theorem pe_dnewA : PE X (.Dict [] [] pos) tDNewA := pe_imp pe_dnewK fun _ _ _ h => h.go
/-- list + list, list * n -/
def rCatA (K : PySem.W.Frag) : R2 := fun x y H Q => ∃ l b xs zs, x = .ref l ∧ y = .ref b ∧ H l = some (.lst xs) ∧ H b = some (.lst zs) ∧ xs.length + zs.length ≤ sizeLine ∧ New H (.lst (xs ++ zs)) Q
theorem op_catA : OpR X (binaryOp .Add) (rCatA X.K) := opR_imp op_cat fun _ _ _ _ ⟨l, b, xs, zs, e1, e2, h1, h2, z, q⟩ => ⟨l, b, xs, zs, e1, e2, h1, h2, z, q.go⟩
def rRepA : R2 := fun x y H Q => ∃ l k xs, x = .ref l ∧ y = .int k ∧ H l = some (.lst xs) ∧ -(2 ^ 63) ≤ k ∧ k < 2 ^ 63 ∧ xs.length * k.toNat ≤ sizeLine ∧ New H (.lst (List.replicate k.toNat xs).flatten) Q
theorem op_repA : OpR X (binaryOp .Mult) rRepA := opR_imp op_rep fun _ _ _ _ ⟨l, k, xs, e1, e2, h1, h2, h3, z, q⟩ => ⟨l, k, xs, e1, e2, h1, h2, h3, z, q.go⟩
def rSlA (K : PySem.W.Frag) : V → Option Int → Option Int → Hp → VK → Prop := fun x lo hi H Q => ∃ a xs, x = .ref a ∧ SqL K H a xs ∧ New H (.lst (cutV xs lo hi)) Q
theorem sl_listA : SlR X (rSlA X.K) := slR_imp sl_list fun _ _ _ _ _ ⟨a, xs, e, h1, q⟩ => ⟨a, xs, e, h1, q.go⟩
def rListA (K : PySem.W.Frag) : List V → Hp → VK → Prop := fun xs H Q => ∃ p ys, xs = [.ref p] ∧ (SqL K H p ys ∨ SqT K H p ys) ∧ New H (.lst ys) Q
theorem call_listA : CallR X (.type "list") (rListA X.K) := callR_imp call_list_of fun _ _ _ ⟨p, ys, e, h, q⟩ => ⟨p, ys, e, h, q.go⟩
/-- tuple(a list) -/
def rTupLA (K : PySem.W.Frag) : List V → Hp → VK → Prop := fun xs H Q => ∃ p ys, xs = [.ref p] ∧ SqL K H p ys ∧ New H (.tup ys) Q
theorem call_tupLA : CallR X (.type "tuple") (rTupLA X.K) := callR_imp call_tuple_of fun _ _ _ ⟨p, ys, e, h, q⟩ => ⟨p, ys, e, .inl ⟨h, q.go⟩⟩
def rSetA : V → V → V → Hp → (Hp → Prop) → Prop := fun o i v H Q => ∃ p xs k j, o = .ref p ∧ i = .int k ∧ H p = some (.lst xs) ∧ ixN xs.length k = some j ∧ Set1 H p (.lst (xs.set j v)) Q
theorem set_listA : PSet X rSetA := pSet_imp set_list fun _ _ _ _ _ ⟨p, xs, k, j, e1, e2, h1, h2, q⟩ => ⟨p, xs, k, j, e1, e2, h1, h2, q.go⟩
def rAppendA : V → List V → Hp → VK → Prop := fun x vs H Q => ∃ l xs y, x = .ref l ∧ vs = [y] ∧ H l = some (.lst xs) ∧ xs.length < sizeLine ∧ Set1 H l (.lst (xs ++ [y])) (Q .non)
def rClearA : V → List V → Hp → VK → Prop := fun x vs H Q => ∃ l xs, x = .ref l ∧ vs = [] ∧ H l = some (.lst xs) ∧ Set1 H l (.lst []) (Q .non)
theorem mt_clearA : MtM X "list.clear" rClearA := mtM_imp mt_clear fun _ _ _ _ ⟨l, xs, e1, e2, h1, q⟩ => ⟨l, xs, e1, e2, h1, q.go⟩
theorem mt_appendA : MtM X "list.append" rAppendA := mtM_imp mt_append fun _ _ _ _ ⟨l, xs, y, e1, e2, h1, h2, q⟩ => ⟨l, xs, y, e1, e2, h1, h2, q.go⟩
end
theorem cutV_mem {xs : List V} {lo hi : Option Int} {x : V} (h : x ∈ cutV xs lo hi) : x ∈ xs := List.mem_of_mem_drop (List.mem_of_mem_take h)
theorem int_of_map {ns : List Int} {i : Nat} {y : V} (h : (ns.map V.int)[i]? = some y) : ∃ z, ns[i]? = some z ∧ y = .int z := by
  rw [List.getElem?_map] at h
  cases e : ns[i]? with
  | none => rw [e] at h; cases h
  | some z => rw [e] at h; exact ⟨z, rfl, (Option.some.inj h).symm⟩
/-- the law's numbers: the first one (0 without), and some more -/
theorem cells_ints {c : Int} {ns : List Int} {lo hi : Option Int} {i : Nat} {y : V} (h : ([V.int c] ++ cutV (ns.map V.int) lo hi)[i]? = some y) : ∃ z, y = .int z := by
  have m := List.mem_of_getElem? h
  rcases List.mem_append.mp m with m | m
  · exact ⟨c, by simpa using m⟩
  · have m2 := cutV_mem m
    obtain ⟨z, _, e⟩ := List.mem_map.mp m2
    exact ⟨z, e.symm⟩
theorem cells_len {ns : List Int} {lo hi : Option Int} (h : ns.length ≤ 63) : ([V.int 0] : List V).length + (cutV (ns.map V.int) lo hi).length ≤ sizeLine := by
  have h1 := cutV_length (ns.map V.int) lo hi
  rw [List.length_map] at h1
  exact Nat.le_trans (by show 1 + _ ≤ 100; omega) (by decide)
/-! ### kinds -/
def isI : V → Bool
  | .int _ => true
  | _ => false
def isN : V → Bool
  | .int i => decide (0 ≤ i)
  | _ => false
def isB : V → Bool
  | .bl _ => true
  | _ => false
/-- a value of one of the plain kinds -/
inductive Ty7 (H : Hp) : V → String → Prop where
  | non : Ty7 H .non "NoneType"
  | bl (b : Bool) : Ty7 H (.bl b) "bool"
  | int (i : Int) : Ty7 H (.int i) "int"
  | str (x : Str) : Ty7 H (.str x) "str"
  | lst {a : Addr} {xs : List V} (h : H a = some (.lst xs)) : Ty7 H (.ref a) "list"
  | tup {a : Addr} {xs : List V} (h : H a = some (.tup xs)) : Ty7 H (.ref a) "tuple"
  | dK {a : Addr} {xs : List (Key × V)} (h : H a = some (.dK xs)) : Ty7 H (.ref a) "dict"
section
variable {K : PySem.W.Frag} {H H' : Hp} {x : V} {t : String}
theorem Ty7.tx (h : Ty7 H x t) : TyX K H x (.type t) := by
  cases h with
  | non => exact .base .non
  | bl b => exact .base (.bl b)
  | int i => exact .base (.int i)
  | str i => exact .base (.str i)
  | lst h => exact .base (.lst h)
  | tup h => exact .base (.tup h)
  | dK h => exact .base (.dK h)
theorem Ty7.ki (h : Ty7 H x t) : kitB t "int" = some (isI x || isB x) := by
  cases h <;> (simp only [isI, isB]; decide +kernel)
theorem Ty7.kb (h : Ty7 H x t) : kitB t "bool" = some (isB x) := by
  cases h <;> (simp only [isB]; decide +kernel)
theorem Ty7.kl (h : Ty7 H x t) : kitB t "list" = some (decide (t = "list")) := by
  cases h <;> decide +kernel
theorem Ty7.kt (h : Ty7 H x t) : kitB t "tuple" = some (decide (t = "tuple")) := by
  cases h <;> decide +kernel
theorem Ty7.ks (h : Ty7 H x t) : kitB t "str" = some (decide (t = "str")) := by
  cases h <;> decide +kernel
theorem Ty7.mono (h : Ty7 H x t) (s : Same H H') : Ty7 H' x t := by
  cases h with
  | non => exact .non
  | bl b => exact .bl b
  | int i => exact .int i
  | str i => exact .str i
  | lst h => exact .lst (s _ _ h)
  | tup h => exact .tup (s _ _ h)
  | dK h => exact .dK (s _ _ h)
end
theorem isI_of : ∀ {x : V}, isI x = true → ∃ i, x = .int i
  | .int i, _ => ⟨i, rfl⟩
theorem isI_bool {x : V} (h : (isI x || isB x) = true) : (!isB x) = isI x := by
  cases x <;> simp_all [isI, isB]
theorem isI_no {x : V} (h : ¬ (isI x || isB x) = true) : false = isI x := by
  cases x <;> simp_all [isI, isB]
def heldM (n l : Int) (m : Option Int) : Int := max (match m with | some m => min n m | none => n) l
def optI : Option Int → V
  | some i => .int i
  | none => .non
/-- the law's source of draws: three whole numbers -/
def src (s : Int × Int × Int) : HO := .lst [.int s.1, .int s.2.1, .int s.2.2]
/-! ### draws: only the source at a changes -/
def Src (H : Hp) (a : Addr) : Prop := ∃ s, H a = some (src s)
structure Dr (a : Addr) (H H' : Hp) : Prop where
  s : Src H' a
  b : But a H H'
theorem Dr.app {a b : Addr} {H H' : Hp} {o : HO} (d : Dr a H H') (n : b ≠ a) (h : H b = some o) : H' b = some o := d.b _ _ n h
theorem Dr.trans {a : Addr} {H H1 H2 : Hp} (d : Dr a H H1) (e : Dr a H1 H2) : Dr a H H2 := ⟨e.s, d.b.trans e.b⟩
theorem Dr.same {a : Addr} {H H1 H2 : Hp} (d : Dr a H H1) (e : Same H1 H2) : Dr a H H2 := ⟨let ⟨s, h⟩ := d.s; ⟨s, e _ _ h⟩, d.b.trans (Same.but e)⟩
theorem Dr.of {a : Addr} {H H1 : Hp} (h : Src H a) (e : Same H H1) : Dr a H H1 := ⟨let ⟨s, h⟩ := h; ⟨s, e _ _ h⟩, Same.but e⟩
theorem Dr.refl {a : Addr} {H : Hp} (h : Src H a) : Dr a H H := ⟨h, But.refl⟩
/-- a list that was not there may change -/
theorem Dr.mut {a l : Addr} {H H1 H2 : Hp} (d : Dr a H H1) (e : But l H1 H2) (n : H l = none) (na : a ≠ l) : Dr a H H2 :=
  ⟨let ⟨s, h⟩ := d.s; ⟨s, e _ _ na h⟩, fun b o nb h => e _ _ (ne_of_none h n) (d.b _ _ nb h)⟩
theorem Same.mut' {l : Addr} {H H1 H2 : Hp} (d : Same H H1) (e : But l H1 H2) (n : H l = none) : Same H H2 := fun b o h => e _ _ (ne_of_none h n) (d _ _ h)
theorem Src.same {a : Addr} {H H1 : Hp} (h : Src H a) (e : Same H H1) : Src H1 a := let ⟨s, h⟩ := h; ⟨s, e _ _ h⟩
theorem Src.but {a l : Addr} {H H1 : Hp} (h : Src H a) (e : But l H H1) (n : a ≠ l) : Src H1 a := let ⟨s, h⟩ := h; ⟨s, e _ _ n h⟩
theorem Src.ne {a p : Addr} {H : Hp} (h : Src H a) (n : H p = none) : p ≠ a := let ⟨_, h⟩ := h; (ne_of_none h n).symm
theorem Src.of {a : Addr} {H : Hp} {s : Int × Int × Int} (h : H a = some (src s)) : Src H a := ⟨s, h⟩
theorem Dr.free {a l : Addr} {H H' : Hp} (d : Dr a H H') (h : H' l = none) (n : l ≠ a) : H l = none := by
  cases q : H l with
  | none => rfl
  | some o => rw [d.b _ _ n q] at h; cases h
theorem Dr.seq {K : PySem.W.Frag} {H H' : Hp} {a b : Addr} {xs : List V} (e : Dr a H H') (n : b ≠ a) (h : SqL K H b xs) : SqL K H' b xs := e.b.seq n h
/-! ### comprehensions: P by the turn, the items so far, the heap; the item's end by a continuation of any kind -/
section
variable {K : PySem.W.Frag} {a b : Addr} {xs zs : List V} {g : TG} {tt : TT} {te : TE} {vs : List Nat} {σ : L2.St} {H1 : Hp} {D : Addr} {Qd : Hp → Prop}
/-- what an item's turn is to end in -/
abbrev LcT (g : TG) (tt : TT) (te : TE) (vs : List Nat) (σ : L2.St) (x : V) (H : Hp) (Kt : V → Hp → Prop) (Kf : Hp → Prop) : Prop :=
  g x (wipe σ vs) H fun σ2 H2 => wipe σ2 vs = wipe σ vs ∧ tt σ2 H2 fun b H3 => if b = true then te σ2 H3 Kt else Kf H3
/-- the ends of a turn -/
structure LcK (D : Addr) (P : List V → Hp → Prop) (acc : List V) (Kt : V → Hp → Prop) (Kf : Hp → Prop) : Prop where
  yes : ∀ y H4, H4 D = some (.lst acc) → acc.length < sizeLine → (∀ H5, But D H4 H5 → H5 D = some (.lst (acc ++ [y])) → P (acc ++ [y]) H5) → Kt y H4
  no : ∀ H3, H3 D = some (.lst acc) → P acc H3 → Kf H3
theorem lcL (P : Nat → List V → Hp → Prop) (h0 : ∀ H', Same H1 H' → H' D = some (.lst []) → P 0 [] H') (hD : H1 D = none) (hl : ∀ i acc H, P i acc H → SqL K H a xs)
    (hs : ∀ i x acc H Kt Kf, xs[i]? = some x → P i acc H → H D = some (.lst acc) → LcK D (P (i + 1)) acc Kt Kf → LcT g tt te vs σ x H Kt Kf)
    (hd : ∀ acc H, P xs.length acc H → H D = some (.lst acc) → Qd H) :
    ∃ W : Nat → Nat → Hp → Prop, (∃ m, W 0 m (upd H1 D (.lst []))) ∧ ∀ i m H, W i m H →
      ((Itl K a).stop i H ∧ Qd H) ∨ ((Itl K a).go i H ∧ ∃ Nx : Hp → Prop, (∀ H', Nx H' → ∃ m', m' < m ∧ W (i + 1) m' H') ∧ ∀ x H', (Itl K a).yld i H x H' → g x (wipe σ vs) H' fun σ2 H2 => wipe σ2 vs = wipe σ vs ∧ tt σ2 H2 fun b H3 =>
        if b = true then te σ2 H3 fun y H4 => ∃ acc, H4 D = some (.lst acc) ∧ acc.length < sizeLine ∧ Nx (upd H4 D (.lst (acc ++ [y]))) else Nx H3) :=
  lc_list (xs := xs) (fun i H => ∃ acc, H D = some (.lst acc) ∧ P i acc H) ⟨[], upd_same, h0 _ (Same.upd0 hD) upd_same⟩ (fun i H _ ⟨acc, _, p⟩ => hl i acc H p)
    (fun i x H hx ⟨acc, e, p⟩ => hs i x acc H _ _ hx p e ⟨fun y H4 e4 z k => ⟨acc, e4, z, acc ++ [y], upd_same, k _ But.refl.upd upd_same⟩, fun H3 e3 k => ⟨acc, e3, k⟩⟩) (fun H ⟨acc, e, p⟩ => hd acc H p e)
theorem lcT (P : Nat → List V → Hp → Prop) (h0 : ∀ H', Same H1 H' → H' D = some (.lst []) → P 0 [] H') (hD : H1 D = none) (hl : ∀ i acc H, P i acc H → SqT K H a xs)
    (hs : ∀ i x acc H Kt Kf, xs[i]? = some x → P i acc H → H D = some (.lst acc) → LcK D (P (i + 1)) acc Kt Kf → LcT g tt te vs σ x H Kt Kf)
    (hd : ∀ acc H, P xs.length acc H → H D = some (.lst acc) → Qd H) :
    ∃ W : Nat → Nat → Hp → Prop, (∃ m, W 0 m (upd H1 D (.lst []))) ∧ ∀ i m H, W i m H →
      ((Itt K a).stop i H ∧ Qd H) ∨ ((Itt K a).go i H ∧ ∃ Nx : Hp → Prop, (∀ H', Nx H' → ∃ m', m' < m ∧ W (i + 1) m' H') ∧ ∀ x H', (Itt K a).yld i H x H' → g x (wipe σ vs) H' fun σ2 H2 => wipe σ2 vs = wipe σ vs ∧ tt σ2 H2 fun b H3 =>
        if b = true then te σ2 H3 fun y H4 => ∃ acc, H4 D = some (.lst acc) ∧ acc.length < sizeLine ∧ Nx (upd H4 D (.lst (acc ++ [y]))) else Nx H3) :=
  lc_tup (xs := xs) (fun i H => ∃ acc, H D = some (.lst acc) ∧ P i acc H) ⟨[], upd_same, h0 _ (Same.upd0 hD) upd_same⟩ (fun i H _ ⟨acc, _, p⟩ => hl i acc H p)
    (fun i x H hx ⟨acc, e, p⟩ => hs i x acc H _ _ hx p e ⟨fun y H4 e4 z k => ⟨acc, e4, z, acc ++ [y], upd_same, k _ But.refl.upd upd_same⟩, fun H3 e3 k => ⟨acc, e3, k⟩⟩) (fun H ⟨acc, e, p⟩ => hd acc H p e)
theorem lcR {lo : Int} {n : Nat} (P : Nat → List V → Hp → Prop) (h0 : ∀ H', Same H1 H' → H' D = some (.lst []) → P 0 [] H') (hD : H1 D = none)
    (hs : ∀ i acc H Kt Kf, i < n → P i acc H → H D = some (.lst acc) → LcK D (P (i + 1)) acc Kt Kf → LcT g tt te vs σ (.int (lo + i)) H Kt Kf)
    (hd : ∀ acc H, P n acc H → H D = some (.lst acc) → Qd H) :
    ∃ W : Nat → Nat → Hp → Prop, (∃ m, W 0 m (upd H1 D (.lst []))) ∧ ∀ i m H, W i m H →
      ((Itr lo n).stop i H ∧ Qd H) ∨ ((Itr lo n).go i H ∧ ∃ Nx : Hp → Prop, (∀ H', Nx H' → ∃ m', m' < m ∧ W (i + 1) m' H') ∧ ∀ x H', (Itr lo n).yld i H x H' → g x (wipe σ vs) H' fun σ2 H2 => wipe σ2 vs = wipe σ vs ∧ tt σ2 H2 fun b H3 =>
        if b = true then te σ2 H3 fun y H4 => ∃ acc, H4 D = some (.lst acc) ∧ acc.length < sizeLine ∧ Nx (upd H4 D (.lst (acc ++ [y]))) else Nx H3) :=
  lc_range (fun i H => ∃ acc, H D = some (.lst acc) ∧ P i acc H) ⟨[], upd_same, h0 _ (Same.upd0 hD) upd_same⟩
    (fun i H hx ⟨acc, e, p⟩ => hs i acc H _ _ hx p e ⟨fun y H4 e4 z k => ⟨acc, e4, z, acc ++ [y], upd_same, k _ But.refl.upd upd_same⟩, fun H3 e3 k => ⟨acc, e3, k⟩⟩) (fun H ⟨acc, e, p⟩ => hd acc H p e)
/-- over enumerate: the pair is a new tuple -/
theorem lcE (P : Nat → List V → Hp → Prop) (h0 : ∀ H', Same H1 H' → H' D = some (.lst []) → P 0 [] H') (hD : H1 D = none) (hl : ∀ i acc H, P i acc H → SqL K H a xs)
    (hs : ∀ i x acc H T H' Kt Kf, xs[i]? = some x → P i acc H → H D = some (.lst acc) → H T = none → Same H H' → H' T = some (.tup [.int (i : Nat), x]) → LcK D (P (i + 1)) acc Kt Kf → LcT g tt te vs σ (.ref T) H' Kt Kf)
    (hd : ∀ acc H, P xs.length acc H → H D = some (.lst acc) → Qd H) :
    ∃ W : Nat → Nat → Hp → Prop, (∃ m, W 0 m (upd H1 D (.lst []))) ∧ ∀ i m H, W i m H →
      ((Ite K a).stop i H ∧ Qd H) ∨ ((Ite K a).go i H ∧ ∃ Nx : Hp → Prop, (∀ H', Nx H' → ∃ m', m' < m ∧ W (i + 1) m' H') ∧ ∀ x H', (Ite K a).yld i H x H' → g x (wipe σ vs) H' fun σ2 H2 => wipe σ2 vs = wipe σ vs ∧ tt σ2 H2 fun b H3 =>
        if b = true then te σ2 H3 fun y H4 => ∃ acc, H4 D = some (.lst acc) ∧ acc.length < sizeLine ∧ Nx (upd H4 D (.lst (acc ++ [y]))) else Nx H3) := by
  refine ⟨fun i m H => m = xs.length - i ∧ i ≤ xs.length ∧ ∃ acc, H D = some (.lst acc) ∧ P i acc H, ⟨xs.length, rfl, Nat.zero_le _, [], upd_same, h0 _ (Same.upd0 hD) upd_same⟩, ?_⟩
  rintro i m H ⟨rfl, hi, acc, e, p⟩
  have q := hl i acc H p
  by_cases hlt : i < xs.length
  · refine .inr ⟨⟨xs, xs[i], q, by simp [hlt]⟩, fun H => ∃ acc, H D = some (.lst acc) ∧ P (i + 1) acc H, fun H' p' => ⟨xs.length - (i + 1), by omega, rfl, hlt, p'⟩, fun v H' y => ?_⟩
    obtain ⟨T, x, rfl, nT, rfl, hx⟩ := y
    exact hs i x acc H T _ _ _ (hx xs q) p e nT (Same.upd0 nT) upd_same ⟨fun y H4 e4 z k => ⟨acc, e4, z, acc ++ [y], upd_same, k _ But.refl.upd upd_same⟩, fun H3 e3 k => ⟨acc, e3, k⟩⟩
  · have ei : i = xs.length := by omega
    subst ei
    exact .inl ⟨⟨xs, q, Nat.le_refl _⟩, hd acc H p e⟩
/-- over zip of two lists of one length -/
theorem lcZ (hlen : xs.length = zs.length) (P : Nat → List V → Hp → Prop) (h0 : ∀ H', Same H1 H' → H' D = some (.lst []) → P 0 [] H') (hD : H1 D = none) (hl : ∀ i acc H, P i acc H → SqL K H a xs ∧ SqL K H b zs)
    (hs : ∀ i x z acc H T H' Kt Kf, xs[i]? = some x → zs[i]? = some z → P i acc H → H D = some (.lst acc) → H T = none → Same H H' → H' T = some (.tup [x, z]) → LcK D (P (i + 1)) acc Kt Kf → LcT g tt te vs σ (.ref T) H' Kt Kf)
    (hd : ∀ acc H, P xs.length acc H → H D = some (.lst acc) → Qd H) :
    ∃ W : Nat → Nat → Hp → Prop, (∃ m, W 0 m (upd H1 D (.lst []))) ∧ ∀ i m H, W i m H →
      ((Itz K a b).stop i H ∧ Qd H) ∨ ((Itz K a b).go i H ∧ ∃ Nx : Hp → Prop, (∀ H', Nx H' → ∃ m', m' < m ∧ W (i + 1) m' H') ∧ ∀ x H', (Itz K a b).yld i H x H' → g x (wipe σ vs) H' fun σ2 H2 => wipe σ2 vs = wipe σ vs ∧ tt σ2 H2 fun b H3 =>
        if b = true then te σ2 H3 fun y H4 => ∃ acc, H4 D = some (.lst acc) ∧ acc.length < sizeLine ∧ Nx (upd H4 D (.lst (acc ++ [y]))) else Nx H3) := by
  refine ⟨fun i m H => m = xs.length - i ∧ i ≤ xs.length ∧ ∃ acc, H D = some (.lst acc) ∧ P i acc H, ⟨xs.length, rfl, Nat.zero_le _, [], upd_same, h0 _ (Same.upd0 hD) upd_same⟩, ?_⟩
  rintro i m H ⟨rfl, hi, acc, e, p⟩
  obtain ⟨q1, q2⟩ := hl i acc H p
  by_cases hlt : i < xs.length
  · have hlt2 : i < zs.length := by omega
    refine .inr ⟨⟨xs, zs, xs[i], zs[i], q1, q2, by simp [hlt], by simp [hlt2]⟩, fun H => ∃ acc, H D = some (.lst acc) ∧ P (i + 1) acc H, fun H' p' => ⟨xs.length - (i + 1), by omega, rfl, hlt, p'⟩, fun v H' y => ?_⟩
    obtain ⟨T, x, z, rfl, nT, rfl, hx, hz⟩ := y
    exact hs i x z acc H T _ _ _ (hx xs q1) (hz zs q2) p e nT (Same.upd0 nT) upd_same ⟨fun y H4 e4 z k => ⟨acc, e4, z, acc ++ [y], upd_same, k _ But.refl.upd upd_same⟩, fun H3 e3 k => ⟨acc, e3, k⟩⟩
  · have ei : i = xs.length := by omega
    subst ei
    exact .inl ⟨⟨xs, zs, q1, q2, .inl (Nat.le_refl _)⟩, hd acc H p e⟩
/-- items that hang on the item alone (what stands, stands): the list of those that are told -/
def lcYs (n : Nat) (ys : Nat → Option V) : List V := (List.range n).filterMap ys
theorem lcYs_succ (n : Nat) (ys : Nat → Option V) : lcYs (n + 1) ys = lcYs n ys ++ (ys n).toList := by
  unfold lcYs
  rw [List.range_succ, List.filterMap_append]
  cases h : ys n with
  | none => simp [h]
  | some y => simp [h]
theorem lcYs_len (n : Nat) (ys : Nat → Option V) : (lcYs n ys).length ≤ n := by
  unfold lcYs
  have := List.length_filterMap_le ys (List.range n)
  rw [List.length_range] at this
  exact this
theorem lcYs_const (n : Nat) (v : V) : lcYs n (fun _ => some v) = List.replicate n v := by
  induction n with
  | zero => rfl
  | succ n ih => rw [lcYs_succ, ih, List.replicate_succ']; rfl
/-- .. one for each item -/
theorem lcYs_map {α : Type} (f : α → V) : ∀ (xs : List α) (ys : Nat → Option V), (∀ i x, xs[i]? = some x → ys i = some (f x)) → lcYs xs.length ys = xs.map f := by
  intro xs ys h
  have key : ∀ n, n ≤ xs.length → lcYs n ys = (xs.take n).map f := by
    intro n
    induction n with
    | zero => intro _; rfl
    | succ n ih =>
      intro hn
      have hx : xs[n]? = some xs[n] := List.getElem?_eq_getElem (by omega)
      rw [lcYs_succ, ih (by omega), h n _ hx, List.take_add_one, hx, List.map_append]
      rfl
  rw [key _ (Nat.le_refl _), List.take_length]
/-- .. of those that a test keeps -/
theorem lcYs_filter {α : Type} (q : α → Bool) (f : α → V) : ∀ (xs : List α) (ys : Nat → Option V), (∀ i x, xs[i]? = some x → ys i = if q x = true then some (f x) else none) → lcYs xs.length ys = (xs.filter q).map f := by
  intro xs ys h
  have key : ∀ n, n ≤ xs.length → lcYs n ys = ((xs.take n).filter q).map f := by
    intro n
    induction n with
    | zero => intro _; rfl
    | succ n ih =>
      intro hn
      have hx : xs[n]? = some xs[n] := List.getElem?_eq_getElem (by omega)
      rw [lcYs_succ, ih (by omega), h n _ hx, List.take_add_one, hx, List.filter_append, List.map_append]
      congr 1
      cases hq : q xs[n] <;> simp [hq]
  rw [key _ (Nat.le_refl _), List.take_length]
/-- the ends of a turn that changes nothing -/
structure LcQ (H : Hp) (r : Option V) (Kt : V → Hp → Prop) (Kf : Hp → Prop) : Prop where
  yes : ∀ y H4, Same H H4 → r = some y → Kt y H4
  no : ∀ H3, Same H H3 → r = none → Kf H3
theorem lcQ_of {P : Nat → List V → Hp → Prop} {ys : Nat → Option V} {i : Nat} {acc : List V} {H H0 : Hp} {Kt : V → Hp → Prop} {Kf : Hp → Prop} (hP : P = fun i acc H => acc = lcYs i ys ∧ Same H1 H) (hD : H1 D = none) (hi : i < 100000)
    (p : P i acc H0) (e : H0 D = some (.lst acc)) (s : Same H0 H) (k : LcK D (P (i + 1)) acc Kt Kf) : LcQ H (ys i) Kt Kf := by
  subst hP
  obtain ⟨rfl, sm⟩ := p
  have hz : (lcYs i ys).length < sizeLine := Nat.lt_of_le_of_lt (lcYs_len i ys) (Nat.lt_of_lt_of_le hi (by decide))
  refine ⟨fun y H4 s4 ey => k.yes y H4 (s4 _ _ (s _ _ e)) hz fun H5 b5 _ => ⟨?_, ?_⟩, fun H3 s3 en => k.no H3 (s3 _ _ (s _ _ e)) ⟨?_, (sm.trans s).trans s3⟩⟩
  · rw [lcYs_succ, ey]; rfl
  · exact Same.mut' ((sm.trans s).trans s4) b5 hD
  · rw [lcYs_succ, en]; simp
theorem lcLq (ys : Nat → Option V) (hD : H1 D = none) (hx : SqL K H1 a xs) (hn : xs.length ≤ 100000)
    (hs : ∀ i x H Kt Kf, xs[i]? = some x → Same H1 H → LcQ H (ys i) Kt Kf → LcT g tt te vs σ x H Kt Kf)
    (hd : ∀ H, Same H1 H → H D = some (.lst (lcYs xs.length ys)) → Qd H) :
    ∃ W : Nat → Nat → Hp → Prop, (∃ m, W 0 m (upd H1 D (.lst []))) ∧ ∀ i m H, W i m H →
      ((Itl K a).stop i H ∧ Qd H) ∨ ((Itl K a).go i H ∧ ∃ Nx : Hp → Prop, (∀ H', Nx H' → ∃ m', m' < m ∧ W (i + 1) m' H') ∧ ∀ x H', (Itl K a).yld i H x H' → g x (wipe σ vs) H' fun σ2 H2 => wipe σ2 vs = wipe σ vs ∧ tt σ2 H2 fun b H3 =>
        if b = true then te σ2 H3 fun y H4 => ∃ acc, H4 D = some (.lst acc) ∧ acc.length < sizeLine ∧ Nx (upd H4 D (.lst (acc ++ [y]))) else Nx H3) :=
  lcL (fun i acc H => acc = lcYs i ys ∧ Same H1 H) (fun H' s _ => ⟨rfl, s⟩) hD (fun i acc H p => p.2.seq hx)
    (fun i x acc H Kt Kf hxi p e k => hs i x H Kt Kf hxi p.2 (lcQ_of rfl hD (by have := (List.getElem?_eq_some_iff.mp hxi).1; omega) p e (Same.refl H) k))
    (fun acc H p e => hd H p.2 (by rw [← p.1]; exact e))
theorem lcTq (ys : Nat → Option V) (hD : H1 D = none) (hx : SqT K H1 a xs) (hn : xs.length ≤ 100000)
    (hs : ∀ i x H Kt Kf, xs[i]? = some x → Same H1 H → LcQ H (ys i) Kt Kf → LcT g tt te vs σ x H Kt Kf)
    (hd : ∀ H, Same H1 H → H D = some (.lst (lcYs xs.length ys)) → Qd H) :
    ∃ W : Nat → Nat → Hp → Prop, (∃ m, W 0 m (upd H1 D (.lst []))) ∧ ∀ i m H, W i m H →
      ((Itt K a).stop i H ∧ Qd H) ∨ ((Itt K a).go i H ∧ ∃ Nx : Hp → Prop, (∀ H', Nx H' → ∃ m', m' < m ∧ W (i + 1) m' H') ∧ ∀ x H', (Itt K a).yld i H x H' → g x (wipe σ vs) H' fun σ2 H2 => wipe σ2 vs = wipe σ vs ∧ tt σ2 H2 fun b H3 =>
        if b = true then te σ2 H3 fun y H4 => ∃ acc, H4 D = some (.lst acc) ∧ acc.length < sizeLine ∧ Nx (upd H4 D (.lst (acc ++ [y]))) else Nx H3) :=
  lcT (fun i acc H => acc = lcYs i ys ∧ Same H1 H) (fun H' s _ => ⟨rfl, s⟩) hD (fun i acc H p => (show SqT K H a xs from by
      rcases hx with (h | ⟨o, h⟩) | h
      · exact .inl (.inl (p.2 _ _ h))
      · exact .inl (.inr ⟨o, p.2 _ _ h⟩)
      · exact .inr h))
    (fun i x acc H Kt Kf hxi p e k => hs i x H Kt Kf hxi p.2 (lcQ_of rfl hD (by have := (List.getElem?_eq_some_iff.mp hxi).1; omega) p e (Same.refl H) k))
    (fun acc H p e => hd H p.2 (by rw [← p.1]; exact e))
theorem lcRq {lo : Int} {n : Nat} (ys : Nat → Option V) (hD : H1 D = none) (hn : n ≤ 100000)
    (hs : ∀ i H Kt Kf, i < n → Same H1 H → LcQ H (ys i) Kt Kf → LcT g tt te vs σ (.int (lo + i)) H Kt Kf)
    (hd : ∀ H, Same H1 H → H D = some (.lst (lcYs n ys)) → Qd H) :
    ∃ W : Nat → Nat → Hp → Prop, (∃ m, W 0 m (upd H1 D (.lst []))) ∧ ∀ i m H, W i m H →
      ((Itr lo n).stop i H ∧ Qd H) ∨ ((Itr lo n).go i H ∧ ∃ Nx : Hp → Prop, (∀ H', Nx H' → ∃ m', m' < m ∧ W (i + 1) m' H') ∧ ∀ x H', (Itr lo n).yld i H x H' → g x (wipe σ vs) H' fun σ2 H2 => wipe σ2 vs = wipe σ vs ∧ tt σ2 H2 fun b H3 =>
        if b = true then te σ2 H3 fun y H4 => ∃ acc, H4 D = some (.lst acc) ∧ acc.length < sizeLine ∧ Nx (upd H4 D (.lst (acc ++ [y]))) else Nx H3) :=
  lcR (fun i acc H => acc = lcYs i ys ∧ Same H1 H) (fun H' s _ => ⟨rfl, s⟩) hD
    (fun i acc H Kt Kf hxi p e k => hs i H Kt Kf hxi p.2 (lcQ_of rfl hD (by omega) p e (Same.refl H) k))
    (fun acc H p e => hd H p.2 (by rw [← p.1]; exact e))
theorem lcEq (ys : Nat → Option V) (hD : H1 D = none) (hx : SqL K H1 a xs) (hn : xs.length ≤ 100000)
    (hs : ∀ i x T H Kt Kf, xs[i]? = some x → Same H1 H → H T = some (.tup [.int (i : Nat), x]) → LcQ H (ys i) Kt Kf → LcT g tt te vs σ (.ref T) H Kt Kf)
    (hd : ∀ H, Same H1 H → H D = some (.lst (lcYs xs.length ys)) → Qd H) :
    ∃ W : Nat → Nat → Hp → Prop, (∃ m, W 0 m (upd H1 D (.lst []))) ∧ ∀ i m H, W i m H →
      ((Ite K a).stop i H ∧ Qd H) ∨ ((Ite K a).go i H ∧ ∃ Nx : Hp → Prop, (∀ H', Nx H' → ∃ m', m' < m ∧ W (i + 1) m' H') ∧ ∀ x H', (Ite K a).yld i H x H' → g x (wipe σ vs) H' fun σ2 H2 => wipe σ2 vs = wipe σ vs ∧ tt σ2 H2 fun b H3 =>
        if b = true then te σ2 H3 fun y H4 => ∃ acc, H4 D = some (.lst acc) ∧ acc.length < sizeLine ∧ Nx (upd H4 D (.lst (acc ++ [y]))) else Nx H3) :=
  lcE (fun i acc H => acc = lcYs i ys ∧ Same H1 H) (fun H' s _ => ⟨rfl, s⟩) hD (fun i acc H p => p.2.seq hx)
    (fun i x acc H T H' Kt Kf hxi p e nT sT gT k => hs i x T H' Kt Kf hxi (p.2.trans sT) gT (lcQ_of rfl hD (by have := (List.getElem?_eq_some_iff.mp hxi).1; omega) p e sT k))
    (fun acc H p e => hd H p.2 (by rw [← p.1]; exact e))
theorem lcZq (ys : Nat → Option V) (hlen : xs.length = zs.length) (hD : H1 D = none) (hx : SqL K H1 a xs) (hz : SqL K H1 b zs) (hn : xs.length ≤ 100000)
    (hs : ∀ i x z T H Kt Kf, xs[i]? = some x → zs[i]? = some z → Same H1 H → H T = some (.tup [x, z]) → LcQ H (ys i) Kt Kf → LcT g tt te vs σ (.ref T) H Kt Kf)
    (hd : ∀ H, Same H1 H → H D = some (.lst (lcYs xs.length ys)) → Qd H) :
    ∃ W : Nat → Nat → Hp → Prop, (∃ m, W 0 m (upd H1 D (.lst []))) ∧ ∀ i m H, W i m H →
      ((Itz K a b).stop i H ∧ Qd H) ∨ ((Itz K a b).go i H ∧ ∃ Nx : Hp → Prop, (∀ H', Nx H' → ∃ m', m' < m ∧ W (i + 1) m' H') ∧ ∀ x H', (Itz K a b).yld i H x H' → g x (wipe σ vs) H' fun σ2 H2 => wipe σ2 vs = wipe σ vs ∧ tt σ2 H2 fun b H3 =>
        if b = true then te σ2 H3 fun y H4 => ∃ acc, H4 D = some (.lst acc) ∧ acc.length < sizeLine ∧ Nx (upd H4 D (.lst (acc ++ [y]))) else Nx H3) :=
  lcZ hlen (fun i acc H => acc = lcYs i ys ∧ Same H1 H) (fun H' s _ => ⟨rfl, s⟩) hD (fun i acc H p => ⟨p.2.seq hx, p.2.seq hz⟩)
    (fun i x z acc H T H' Kt Kf hxi hzi p e nT sT gT k => hs i x z T H' Kt Kf hxi hzi (p.2.trans sT) gT (lcQ_of rfl hD (by have := (List.getElem?_eq_some_iff.mp hxi).1; omega) p e sT k))
    (fun acc H p e => hd H p.2 (by rw [← p.1]; exact e))
end
/-- the items of a dict: it is held from there on (nobody else has it) -/
def iItemsN (td : TE) : TI := fun σ H R => td σ H fun x H1 => ∃ d kvs, x = .ref d ∧ H1 d = some (.dK kvs) ∧ ∀ o H2, But d H1 H2 → H2 d = some (.frz o (.dK kvs)) → R (Iti d o kvs) H2
theorem pi_itemsN {X : Cx} {e : Expr} {td : TE} {apos cpos : Pos} {elts : List Expr} {kk : Nat} {tpos : Pos} (he : PE X e td) (hbase : attributeBase e "items" X.env (eval e X.env) = eval e X.env := by rfl) (hline : (apos.endLine == cpos.line) = true := by rfl) :
    PI X (.Tuple elts kk tpos) (.Call (.Attribute e "items" apos) [] [] cpos) (iItemsN td) := by
  refine ⟨fun pins s σ H R I h => ?_⟩
  refine wpAny_Call_method (T := "dict") (id := "dict.items") hbase rfl hline F.plainAttrs_dict F.slot_dict_items F.type_dict_items (thn (he.run pins s σ H _ I h) fun u s1 ⟨x, H0, I0, rx, d, kvs, ex, hd0, q0⟩ => ?_)
  subst ex
  obtain rfl : u = Value.ref d := rx
  obtain ⟨o, I1⟩ := I0.lock hd0 trivial
  have hd : (upd H0 d (.frz o (.dK kvs))) d = some (.frz o (.dK kvs)) := upd_same
  have q := q0 o _ But.refl.upd hd
  generalize upd H0 d (.frz o (.dK kvs)) = H1 at I1 hd q
  obtain ⟨hs, hgd, hx, es, ep, vs, hdt, hsz, kv, hm⟩ := I1.frzK hd
  have hl : kvs.length = vs.length := Paired.length kv
  refine ⟨hm.dictOf.typeIs, hm.dictOf.mapOf.noDict, ?_⟩
  have I2 : Inv X pins σ H1 { s1 with heap := s1.heap.push { cls := .type "dict_items", data := .fields #[.ref d] } } := I1.kept (t' := s1.toks) fun b ob q => Heap.get?_push_of_some _ q
  have fin : wpAny (model X.prog X.w) X.A (pyIter (.ref s1.heap.objs.size)) (PIE X pins σ (.Tuple elts kk tpos) R) X.xe { s1 with heap := s1.heap.push { cls := .type "dict_items", data := .fields #[.ref d] } } := by
    refine wpAny_pyIter_items (d := d) (knd := mixKind X.prog X.w) ⟨_, Heap.get?_push_size _ rfl, rfl, rfl⟩ (hm.push _) (pi_one (tk := s1.toks) I2 _ (turn_items _ hdt) ⟨.none, .none, ?_⟩ q)
    rw [hl]
    exact Heap.get?_push_size _ rfl
  show wpAny _ _ (callWith cpos (.builtin "dict.items") [.ref d] [] []) _ X.xe s1
  exact method_meetsIn F.slot_dict_items F.entry_dict_items rfl (PySem.evalArgs_none ⟨rfl, hm.dictOf.typeIs, F.args_dict_items_1 _, _, meets_dict_items (mixKind X.prog X.w) d hs, ⟨vs, hm.dictOf⟩, fin⟩)
/-! ### loops over enumerate, zip, the items of a dict that nobody else holds -/
section
variable {K : PySem.W.Frag} {a b : Addr} {xs zs : List V} {g : TG} {tb : TS} {D : Ends} {σ : L2.St} {H : Hp}
theorem for_enum (Pv : Nat → L2.St → Hp → Prop) (h0 : Pv 0 σ H) (hl : ∀ i σ H, Pv i σ H → SqL K H a xs)
    (hs : ∀ i x T σ H H', xs[i]? = some x → Pv i σ H → H T = none → Same H H' → H' T = some (.tup [.int (i : Nat), x]) → g (.ref T) σ H' fun σ2 H2 => tb { D with nx := Pv (i + 1), ct := Pv (i + 1), bk := D.nx } σ2 H2) (hd : ∀ σ H, Pv xs.length σ H → D.nx σ H) :
    ∃ W : Nat → Nat → L2.St → Hp → Prop, (∃ m, W 0 m σ H) ∧ ∀ i m σ H, W i m σ H →
      ((Ite K a).stop i H ∧ D.nx σ H) ∨ ((Ite K a).go i H ∧ ∃ N : L2.St → Hp → Prop, (∀ σ' H', N σ' H' → ∃ m', m' < m ∧ W (i + 1) m' σ' H') ∧ ∀ v H', (Ite K a).yld i H v H' → g v σ H' fun σ2 H2 => tb { D with nx := N, ct := N, bk := D.nx } σ2 H2) := by
  refine ⟨fun i m σ H => m = xs.length - i ∧ i ≤ xs.length ∧ Pv i σ H, ⟨xs.length, rfl, Nat.zero_le _, h0⟩, ?_⟩
  rintro i m σ H ⟨rfl, hi, p⟩
  have q := hl i σ H p
  by_cases hlt : i < xs.length
  · refine .inr ⟨⟨xs, xs[i], q, by simp [hlt]⟩, Pv (i + 1), fun σ' H' p' => ⟨xs.length - (i + 1), by omega, rfl, hlt, p'⟩, fun v H' y => ?_⟩
    obtain ⟨T, x, rfl, nT, rfl, hx⟩ := y
    exact hs i x T σ H _ (hx xs q) p nT (Same.upd0 nT) upd_same
  · have ei : i = xs.length := by omega
    subst ei
    exact .inl ⟨⟨xs, q, Nat.le_refl _⟩, hd σ H p⟩
theorem for_zip (hlen : xs.length = zs.length) (Pv : Nat → L2.St → Hp → Prop) (h0 : Pv 0 σ H) (hl : ∀ i σ H, Pv i σ H → SqL K H a xs ∧ SqL K H b zs)
    (hs : ∀ i x z T σ H H', xs[i]? = some x → zs[i]? = some z → Pv i σ H → H T = none → Same H H' → H' T = some (.tup [x, z]) → g (.ref T) σ H' fun σ2 H2 => tb { D with nx := Pv (i + 1), ct := Pv (i + 1), bk := D.nx } σ2 H2) (hd : ∀ σ H, Pv xs.length σ H → D.nx σ H) :
    ∃ W : Nat → Nat → L2.St → Hp → Prop, (∃ m, W 0 m σ H) ∧ ∀ i m σ H, W i m σ H →
      ((Itz K a b).stop i H ∧ D.nx σ H) ∨ ((Itz K a b).go i H ∧ ∃ N : L2.St → Hp → Prop, (∀ σ' H', N σ' H' → ∃ m', m' < m ∧ W (i + 1) m' σ' H') ∧ ∀ v H', (Itz K a b).yld i H v H' → g v σ H' fun σ2 H2 => tb { D with nx := N, ct := N, bk := D.nx } σ2 H2) := by
  refine ⟨fun i m σ H => m = xs.length - i ∧ i ≤ xs.length ∧ Pv i σ H, ⟨xs.length, rfl, Nat.zero_le _, h0⟩, ?_⟩
  rintro i m σ H ⟨rfl, hi, p⟩
  obtain ⟨q1, q2⟩ := hl i σ H p
  by_cases hlt : i < xs.length
  · have hlt2 : i < zs.length := by omega
    refine .inr ⟨⟨xs, zs, xs[i], zs[i], q1, q2, by simp [hlt], by simp [hlt2]⟩, Pv (i + 1), fun σ' H' p' => ⟨xs.length - (i + 1), by omega, rfl, hlt, p'⟩, fun v H' y => ?_⟩
    obtain ⟨T, x, z, rfl, nT, rfl, hx, hz⟩ := y
    exact hs i x z T σ H _ (hx xs q1) (hz zs q2) p nT (Same.upd0 nT) upd_same
  · have ei : i = xs.length := by omega
    subst ei
    exact .inl ⟨⟨xs, zs, q1, q2, .inl (Nat.le_refl _)⟩, hd σ H p⟩
theorem for_items {d : Addr} {o : Obj} {kvs : List (Key × V)} (Pv : Nat → L2.St → Hp → Prop) (h0 : Pv 0 σ H) (hl : ∀ i σ H, Pv i σ H → H d = some (.frz o (.dK kvs)))
    (hs : ∀ i k v T σ H H', kvs[i]? = some (k, v) → Pv i σ H → H T = none → Same H H' → H' T = some (.tup [kV k, v]) → g (.ref T) σ H' fun σ2 H2 => tb { D with nx := Pv (i + 1), ct := Pv (i + 1), bk := D.nx } σ2 H2) (hd : ∀ σ H, Pv kvs.length σ H → D.nx σ H) :
    ∃ W : Nat → Nat → L2.St → Hp → Prop, (∃ m, W 0 m σ H) ∧ ∀ i m σ H, W i m σ H →
      ((Iti d o kvs).stop i H ∧ D.nx σ H) ∨ ((Iti d o kvs).go i H ∧ ∃ N : L2.St → Hp → Prop, (∀ σ' H', N σ' H' → ∃ m', m' < m ∧ W (i + 1) m' σ' H') ∧ ∀ v H', (Iti d o kvs).yld i H v H' → g v σ H' fun σ2 H2 => tb { D with nx := N, ct := N, bk := D.nx } σ2 H2) := by
  refine ⟨fun i m σ H => m = kvs.length - i ∧ i ≤ kvs.length ∧ Pv i σ H, ⟨kvs.length, rfl, Nat.zero_le _, h0⟩, ?_⟩
  rintro i m σ H ⟨rfl, hi, p⟩
  have q := hl i σ H p
  by_cases hlt : i < kvs.length
  · refine .inr ⟨⟨q, hlt⟩, Pv (i + 1), fun σ' H' p' => ⟨kvs.length - (i + 1), by omega, rfl, hlt, p'⟩, fun v H' y => ?_⟩
    obtain ⟨T, k, v, hx, rfl, nT, rfl⟩ := y
    exact hs i k v T σ H _ hx p nT (Same.upd0 nT) upd_same
  · have ei : i = kvs.length := by omega
    subst ei
    exact .inl ⟨⟨q, Nat.le_refl _⟩, hd σ H p⟩
end
/-! ### data, == -/
section
variable {K : PySem.W.Frag} {H H' : Hp}
theorem Same.seqT {a : Addr} {xs : List V} (e : Same H H') (h : SqT K H a xs) : SqT K H' a xs := by
  rcases h with (h | ⟨o, h⟩) | h
  · exact .inl (.inl (e _ _ h))
  · exact .inl (.inr ⟨o, e _ _ h⟩)
  · exact .inr h
mutual
theorem dp_mono (s : Same H H') : ∀ {v : V} {d : PyData}, Dp K H v d → Dp K H' v d
  | _, _, .non => .non
  | _, _, .bl b => .bl b
  | _, _, .int i => .int i
  | _, _, .str x => .str x
  | _, _, .lst h a => .lst (s.seq h) (dpAll_mono s a)
  | _, _, .tup h a => .tup (Same.seqT s h) (dpAll_mono s a)
theorem dpAll_mono (s : Same H H') : ∀ {vs : List V} {ds : List PyData}, DpAll K H vs ds → DpAll K H' vs ds
  | _, _, .nil => .nil
  | _, _, .cons h t => .cons (dp_mono s h) (dpAll_mono s t)
end
theorem dpAll_map {α : Type} {f : α → V} {g : α → PyData} (h : ∀ x, Dp K H (f x) (g x)) : ∀ xs : List α, DpAll K H (xs.map f) (xs.map g)
  | [] => .nil
  | x :: xs => .cons (h x) (dpAll_map h xs)
theorem dp_ints {a : Addr} {ns : List Int} (h : SqL K H a (ns.map V.int)) : Dp K H (.ref a) (.list (ns.map .int)) := .lst h (dpAll_map (fun i => .int i) ns)
def optD : Option Int → PyData
  | some i => .int i
  | none => .none
theorem dp_opt : ∀ x, Dp K H (optI x) (optD x)
  | some i => .int i
  | none => .non
theorem dp_opts {a : Addr} {ns : List (Option Int)} (h : SqL K H a (ns.map optI)) : Dp K H (.ref a) (.list (ns.map optD)) := .lst h (dpAll_map dp_opt ns)
end
mutual
/-- data without truths and dicts -/
def nob : PyData → Bool
  | .none | .int _ | .str _ => true
  | .bool _ | .dict _ => false
  | .list xs | .tuple xs => nobAll xs
def nobAll : List PyData → Bool
  | [] => true
  | x :: xs => nob x && nobAll xs
end
mutual
theorem eqv_iff : ∀ {d e : PyData}, nob d = true → nob e = true → (PyData.eqv d e = true ↔ d = e)
  | .none, .none, _, _ => by simp [PyData.eqv]
  | .none, .int _, _, _ => by simp [PyData.eqv]
  | .none, .str _, _, _ => by simp [PyData.eqv]
  | .none, .list _, _, _ => by simp [PyData.eqv]
  | .none, .tuple _, _, _ => by simp [PyData.eqv]
  | .int _, .none, _, _ => by simp [PyData.eqv]
  | .int _, .int _, _, _ => by simp [PyData.eqv]
  | .int _, .str _, _, _ => by simp [PyData.eqv]
  | .int _, .list _, _, _ => by simp [PyData.eqv]
  | .int _, .tuple _, _, _ => by simp [PyData.eqv]
  | .str _, .none, _, _ => by simp [PyData.eqv]
  | .str _, .int _, _, _ => by simp [PyData.eqv]
  | .str _, .str _, _, _ => by simp [PyData.eqv]
  | .str _, .list _, _, _ => by simp [PyData.eqv]
  | .str _, .tuple _, _, _ => by simp [PyData.eqv]
  | .list _, .none, _, _ => by simp [PyData.eqv]
  | .list _, .int _, _, _ => by simp [PyData.eqv]
  | .list _, .str _, _, _ => by simp [PyData.eqv]
  | .list xs, .list ys, h1, h2 => by
    have h := eqvAll_iff (xs := xs) (ys := ys) (by simpa [nob] using h1) (by simpa [nob] using h2)
    simp only [PyData.eqv, PyData.list.injEq]; exact h
  | .list _, .tuple _, _, _ => by simp [PyData.eqv]
  | .tuple _, .none, _, _ => by simp [PyData.eqv]
  | .tuple _, .int _, _, _ => by simp [PyData.eqv]
  | .tuple _, .str _, _, _ => by simp [PyData.eqv]
  | .tuple _, .list _, _, _ => by simp [PyData.eqv]
  | .tuple xs, .tuple ys, h1, h2 => by
    have h := eqvAll_iff (xs := xs) (ys := ys) (by simpa [nob] using h1) (by simpa [nob] using h2)
    simp only [PyData.eqv, PyData.tuple.injEq]; exact h
  | .bool _, _, h, _ => by simp [nob] at h
  | .dict _, _, h, _ => by simp [nob] at h
  | .none, .bool _, _, h => by simp [nob] at h
  | .none, .dict _, _, h => by simp [nob] at h
  | .int _, .bool _, _, h => by simp [nob] at h
  | .int _, .dict _, _, h => by simp [nob] at h
  | .str _, .bool _, _, h => by simp [nob] at h
  | .str _, .dict _, _, h => by simp [nob] at h
  | .list _, .bool _, _, h => by simp [nob] at h
  | .list _, .dict _, _, h => by simp [nob] at h
  | .tuple _, .bool _, _, h => by simp [nob] at h
  | .tuple _, .dict _, _, h => by simp [nob] at h
theorem eqvAll_iff : ∀ {xs ys : List PyData}, nobAll xs = true → nobAll ys = true → (PyData.eqvAll xs ys = true ↔ xs = ys)
  | [], [], _, _ => by simp [PyData.eqvAll]
  | [], _ :: _, _, _ => by simp [PyData.eqvAll]
  | _ :: _, [], _, _ => by simp [PyData.eqvAll]
  | x :: xs, y :: ys, h1, h2 => by
    simp only [nobAll, Bool.and_eq_true] at h1 h2
    have a := eqv_iff h1.1 h2.1
    have b := eqvAll_iff h1.2 h2.2
    simp only [PyData.eqvAll, Bool.and_eq_true, List.cons.injEq]
    rw [a, b]
end
theorem eqv_dec {d e : PyData} (h1 : nob d = true) (h2 : nob e = true) {b : Bool} (h : b = true ↔ d = e) : PyData.eqv d e = b := by
  have a := eqv_iff h1 h2
  cases hb : b with
  | true => rw [hb] at h; exact a.mpr (h.mp rfl)
  | false =>
    cases he : PyData.eqv d e with
    | false => rfl
    | true => have := h.mpr (a.mp he); rw [hb] at this; cases this
theorem nobAll_map {α : Type} {g : α → PyData} (h : ∀ x, nob (g x) = true) : ∀ xs : List α, nobAll (xs.map g) = true
  | [] => by simp [nobAll]
  | x :: xs => by simp only [List.map_cons, nobAll, h x, nobAll_map h xs, Bool.and_self]
theorem canLayAll0_map {α : Type} {g : α → PyData} (h : ∀ x, (g x).canLay0 = true) : ∀ xs : List α, PyData.canLayAll0 (xs.map g) = true
  | [] => by simp [PyData.canLayAll0]
  | x :: xs => by simp only [List.map_cons, PyData.canLayAll0, h x, canLayAll0_map h xs, Bool.and_self]
theorem depthAll_map {α : Type} {g : α → PyData} {m : Nat} (h : ∀ x, (g x).depth ≤ m) : ∀ xs : List α, PyData.depthAll (xs.map g) ≤ m
  | [] => by simp [PyData.depthAll]
  | x :: xs => by
    have h1 := h x
    have h2 := depthAll_map h xs
    simp only [List.map_cons, PyData.depthAll]; omega
theorem shaped_map {α : Type} {g : α → PyData} {m : Nat} (hm : m < 64) (h1 : ∀ x, (g x).canLay0 = true) (h2 : ∀ x, (g x).depth ≤ m) (xs : List α) : SeqAt.shaped (.list (xs.map g)) = true := by
  unfold SeqAt.shaped
  rw [Bool.and_eq_true]
  refine ⟨by simp only [PyData.canLay0]; exact canLayAll0_map h1 xs, decide_eq_true ?_⟩
  have := depthAll_map h2 xs
  simp only [PyData.depth]; omega
theorem shaped_ints (ns : List Int) : SeqAt.shaped (.list (ns.map .int)) = true := shaped_map (m := 0) (by decide) (fun _ => by simp [PyData.canLay0]) (fun _ => by simp [PyData.depth]) ns
theorem shaped_opts (ns : List (Option Int)) : SeqAt.shaped (.list (ns.map optD)) = true := shaped_map (m := 0) (by decide) (fun x => by cases x <;> simp [optD, PyData.canLay0]) (fun x => by cases x <;> simp [optD, PyData.depth]) ns
theorem nob_ints (ns : List Int) : nob (.list (ns.map .int)) = true := by simp only [nob]; exact nobAll_map (fun _ => by simp [nob]) ns
theorem nob_opts (ns : List (Option Int)) : nob (.list (ns.map optD)) = true := by simp only [nob]; exact nobAll_map (fun x => by cases x <;> simp [optD, nob]) ns
theorem map_inj {α β : Type} {f : α → β} (h : ∀ a b, f a = f b → a = b) : ∀ {xs ys : List α}, xs.map f = ys.map f → xs = ys
  | [], [], _ => rfl
  | [], _ :: _, e => by simp at e
  | _ :: _, [], e => by simp at e
  | x :: xs, y :: ys, e => by
    simp only [List.map_cons, List.cons.injEq] at e
    rw [h x y e.1, map_inj h e.2]
theorem eqv_ints (ns ms : List Int) : PyData.eqv (.list (ns.map .int)) (.list (ms.map .int)) = decide (ns = ms) :=
  eqv_dec (nob_ints ns) (nob_ints ms) (by
    rw [decide_eq_true_iff]
    exact ⟨fun e => by rw [e], fun e => map_inj (fun a b h => PyData.int.inj h) (PyData.list.inj e)⟩)
theorem eqv_opts (ns ms : List (Option Int)) : PyData.eqv (.list (ns.map optD)) (.list (ms.map optD)) = decide (ns = ms) :=
  eqv_dec (nob_opts ns) (nob_opts ms) (by
    rw [decide_eq_true_iff]
    exact ⟨fun e => by rw [e], fun e => map_inj (fun a b h => by cases a <;> cases b <;> simp_all [optD]) (PyData.list.inj e)⟩)
section
variable {X : Cx}
/-- two lists of ints -/
def rEqIs (K : PySem.W.Frag) : R2 := fun x y H Q => ∃ (a b : Addr) (ns ms : List Int), x = .ref a ∧ y = .ref b ∧ SqL K H a (ns.map V.int) ∧ SqL K H b (ms.map V.int) ∧ Q (.bl (decide (ns = ms))) H
def rNeIs (K : PySem.W.Frag) : R2 := fun x y H Q => ∃ (a b : Addr) (ns ms : List Int), x = .ref a ∧ y = .ref b ∧ SqL K H a (ns.map V.int) ∧ SqL K H b (ms.map V.int) ∧ Q (.bl (!decide (ns = ms))) H
theorem op_eqIs (hu : X.A.units + 64 < cLine) : OpR X (compareOp .Eq) (rEqIs X.K) := opR_imp (op_eqD hu) fun _ _ _ _ ⟨a, b, ns, ms, e1, e2, h1, h2, q⟩ => by
  subst e1 e2
  exact ⟨_, _, dp_ints h1, dp_ints h2, shaped_ints ns, shaped_ints ms, by rw [eqv_ints]; exact q⟩
theorem op_neIs (hu : X.A.units + 64 < cLine) : OpR X (compareOp .NotEq) (rNeIs X.K) := opR_imp (op_neD hu) fun _ _ _ _ ⟨a, b, ns, ms, e1, e2, h1, h2, q⟩ => by
  subst e1 e2
  exact ⟨_, _, dp_ints h1, dp_ints h2, shaped_ints ns, shaped_ints ms, by rw [eqv_ints]; exact q⟩
end
/-! ### rules that hang on the written part, the part by its name (a comprehension's block has the same one) -/
section
variable {X : Cx} {K : PySem.W.Frag}
theorem op_notInK (h : X.K = K) : OpR X (compareOp .NotIn) (rIn K true) := h ▸ op_notIn_seq
theorem op_inK (h : X.K = K) : OpR X (compareOp .In) (rIn K false) := h ▸ op_in_seq
theorem ix_listK (h : X.K = K) : IxR X (rIxL K) := h ▸ ix_list
theorem ix_tupK (h : X.K = K) : IxR X (rIxT K) := h ▸ ix_tup
theorem ix_seqK (h : X.K = K) : IxR X (rIx K) := h ▸ ix_seq
theorem op_catK (h : X.K = K) : OpR X (binaryOp .Add) (rCatA K) := h ▸ op_catA
theorem sl_listK (h : X.K = K) : SlR X (rSlA K) := h ▸ sl_listA
theorem op_eqDK (hu : X.A.units + 64 < cLine) (h : X.K = K) : OpR X (compareOp .Eq) (rEqD K) := h ▸ op_eqD hu
theorem op_neDK (hu : X.A.units + 64 < cLine) (h : X.K = K) : OpR X (compareOp .NotEq) (rNeD K) := h ▸ op_neD hu
theorem units65 {k : Nat} {A : Around} (r : Room k A) : A.units + 65 < cLine := by have := r.un; omega
theorem op_inDK (hu : X.A.units + 65 < cLine) (h : X.K = K) : OpR X (compareOp .In) (rInD K) := h ▸ op_inD hu
theorem op_notInDK (hu : X.A.units + 65 < cLine) (h : X.K = K) : OpR X (compareOp .NotIn) (rNotInD K) := h ▸ op_notInD hu
theorem op_eqIsK (hu : X.A.units + 64 < cLine) (h : X.K = K) : OpR X (compareOp .Eq) (rEqIs K) := h ▸ op_eqIs hu
theorem op_neIsK (hu : X.A.units + 64 < cLine) (h : X.K = K) : OpR X (compareOp .NotEq) (rNeIs K) := h ▸ op_neIs hu
theorem call_isiK (h : X.K = K) : CallR X (.builtin "isinstance") (rIsi K) := h ▸ call_isi
theorem call_isiTK (h : X.K = K) : CallR X (.builtin "isinstance") (rIsiT K) := h ▸ call_isiT
def rLen (K : PySem.W.Frag) : List V → Hp → VK → Prop := fun xs H Q => ∃ x n, xs = [x] ∧ LenV K x H n ∧ Q (.int n) H
theorem call_lenK (h : X.K = K) : CallR X (.builtin "len") (rLen K) := h ▸ call_len
theorem cr_sumK (hc : X.calm = true) (h : X.K = K) : CallR X (.builtin "sum") (rSum K) := h ▸ cr_sum hc
theorem cr_maxK (hc : X.calm = true) (h : X.K = K) : CallR X (.builtin "max") (rMax K) := h ▸ cr_max hc
theorem cr_minK (hc : X.calm = true) (h : X.K = K) : CallR X (.builtin "min") (rMin K) := h ▸ cr_min hc
theorem cr_anyK (hc : X.calm = true) (h : X.K = K) : CallR X (.builtin "any") (rAny K) := h ▸ cr_any hc
theorem cr_allK (hc : X.calm = true) (h : X.K = K) : CallR X (.builtin "all") (rAll K) := h ▸ cr_all hc
theorem call_listK (h : X.K = K) : CallR X (.type "list") (rListA K) := h ▸ call_listA
theorem call_tupLK (h : X.K = K) : CallR X (.type "tuple") (rTupLA K) := h ▸ call_tupLA
theorem pe_fldK {e : Expr} {f : Str} {pos : Pos} {ta : TE} (h : X.K = K) (he : PE X e ta) (hb : attributeBase e f X.env (eval e X.env) = eval e X.env) : PE X (.Attribute e f pos) (tFld K ta f) := h ▸ pe_fld he hb
theorem pi_listK {tg l : Expr} {tl : TE} (h : X.K = K) (hl : PE X l tl) : PI X tg l (iList K tl) := h ▸ pi_list hl
theorem pi_tupK {tg l : Expr} {tl : TE} (h : X.K = K) (hl : PE X l tl) : PI X tg l (iTup K tl) := h ▸ pi_tup hl
theorem pi_enumK {e : Expr} {ta : TA} {p pos tpos : Pos} {elts : List Expr} {kk : Nat} (h : X.K = K) (hg : Gl X "enumerate") (hm : X.mg "enumerate" = none) (ha : PA X [e] ta) (hs : starEach [e] X.env = [(false, eval e X.env)] := by rfl) :
    PI X (.Tuple elts kk tpos) (.Call (.Name "enumerate" p) [e] [] pos) (iEnum K ta) := h ▸ pi_enum hg hm ha hs
theorem pi_zipK {e e2 : Expr} {ta : TA} {p pos tpos : Pos} {elts : List Expr} {kk : Nat} (h : X.K = K) (hg : Gl X "zip") (hm : X.mg "zip" = none) (ha : PA X [e, e2] ta)
    (hs : starEach [e, e2] X.env = (false, eval e X.env) :: starEach [e2] X.env := by rfl) (hpl : (backTo pos (starEach [e2] X.env)).any (·.1) = false := by rfl) :
    PI X (.Tuple elts kk tpos) (.Call (.Name "zip" p) [e, e2] [] pos) (iZip K ta) := h ▸ pi_zip hg hm ha hs hpl
end
/-- a statement with what comes behind it by a name: M holds at its end -/
theorem seq_key {t u : TS} {D : Ends} {σ : L2.St} {H : Hp} (M : L2.St → Hp → Prop) (h2 : ∀ σ H, M σ H → u D σ H) (h1 : ∀ N : L2.St → Hp → Prop, (∀ σ H, M σ H → N σ H) → t { D with nx := N } σ H) : tSeq t u D σ H := h1 _ h2
theorem isIf {a : TT} {b c d : TS} {D : Ends} {σ : L2.St} {H : Hp} (h : tSeq (tIfS a b c) d D σ H) : tSeq (tIfS a b c) d D σ H := h
theorem iteF' {c : Bool} {A B : Prop} (hc : c = false) (h : B) : if c = true then A else B := by
  subst hc; exact iteF h
theorem iteT' {c : Bool} {A B : Prop} (hc : c = true) (h : A) : if c = true then A else B := by
  subst hc; exact iteT h
theorem Dr.seqT {K : PySem.W.Frag} {H H' : Hp} {a b : Addr} {xs : List V} (e : Dr a H H') (n : b ≠ a) (h : SqT K H b xs) : SqT K H' b xs := by
  rcases h with (h | ⟨o, h⟩) | h
  · exact .inl (.inl (e.b _ _ n h))
  · exact .inl (.inr ⟨o, e.b _ _ n h⟩)
  · exact .inr h
theorem int_inj_dec {i j : Int} : decide (V.int i = V.int j) = decide (i = j) := decide_eq_decide.mpr ⟨V.int.inj, fun e => e ▸ rfl⟩
/-- an item of a short written list -/
theorem pick2 {P : V → Prop} {a b : V} {n : Int} (h0 : 0 ≤ n) (h1 : n < 2) (ha : P a) (hb : P b) : ∃ x, atI [a, b] n = some x ∧ P x := by
  have : n = 0 ∨ n = 1 := by omega
  rcases this with rfl | rfl
  · exact ⟨a, rfl, ha⟩
  · exact ⟨b, rfl, hb⟩
theorem pick3 {P : V → Prop} {a b c : V} {n : Int} (h0 : 0 ≤ n) (h1 : n < 3) (ha : P a) (hb : P b) (hc : P c) : ∃ x, atI [a, b, c] n = some x ∧ P x := by
  have : n = 0 ∨ n = 1 ∨ n = 2 := by omega
  rcases this with rfl | rfl | rfl
  · exact ⟨a, rfl, ha⟩
  · exact ⟨b, rfl, hb⟩
  · exact ⟨c, rfl, hc⟩
theorem pick4 {P : V → Prop} {a b c d : V} {n : Int} (h0 : 0 ≤ n) (h1 : n < 4) (ha : P a) (hb : P b) (hc : P c) (hd : P d) : ∃ x, atI [a, b, c, d] n = some x ∧ P x := by
  have : n = 0 ∨ n = 1 ∨ n = 2 ∨ n = 3 := by omega
  rcases this with rfl | rfl | rfl | rfl
  · exact ⟨a, rfl, ha⟩
  · exact ⟨b, rfl, hb⟩
  · exact ⟨c, rfl, hc⟩
  · exact ⟨d, rfl, hd⟩
theorem pick5 {P : V → Prop} {a b c d e : V} {n : Int} (h0 : 0 ≤ n) (h1 : n < 5) (ha : P a) (hb : P b) (hc : P c) (hd : P d) (he : P e) : ∃ x, atI [a, b, c, d, e] n = some x ∧ P x := by
  have : n = 0 ∨ n = 1 ∨ n = 2 ∨ n = 3 ∨ n = 4 := by omega
  rcases this with rfl | rfl | rfl | rfl | rfl
  · exact ⟨a, rfl, ha⟩
  · exact ⟨b, rfl, hb⟩
  · exact ⟨c, rfl, hc⟩
  · exact ⟨d, rfl, hd⟩
  · exact ⟨e, rfl, he⟩
theorem pick6 {P : V → Prop} {a b c d e f : V} {n : Int} (h0 : 0 ≤ n) (h1 : n < 6) (ha : P a) (hb : P b) (hc : P c) (hd : P d) (he : P e) (hf : P f) : ∃ x, atI [a, b, c, d, e, f] n = some x ∧ P x := by
  have : n = 0 ∨ n = 1 ∨ n = 2 ∨ n = 3 ∨ n = 4 ∨ n = 5 := by omega
  rcases this with rfl | rfl | rfl | rfl | rfl | rfl
  · exact ⟨a, rfl, ha⟩
  · exact ⟨b, rfl, hb⟩
  · exact ⟨c, rfl, hc⟩
  · exact ⟨d, rfl, hd⟩
  · exact ⟨e, rfl, he⟩
  · exact ⟨f, rfl, hf⟩
/-- an int within bounds -/
def InR (lo hi : Int) (x : V) : Prop := ∃ z, x = .int z ∧ lo ≤ z ∧ z < hi
/-! ### isinstance of plain things -/
section
variable {X : Cx}
def rIs (T : String) (ans : V → String → Bool) : List V → Hp → VK → Prop := fun xs H Q => ∃ x t, xs = [x, .ty T] ∧ Ty7 H x t ∧ Q (.bl (ans x t)) H
theorem call_isTy (T : String) (ans : V → String → Bool) (h : ∀ H x t, Ty7 H x t → kitB t T = some (ans x t)) : CallR X (.builtin "isinstance") (rIs T ans) :=
  callR_imp call_isi fun _ H Q ⟨x, t, e, ht, q⟩ => ⟨x, _, _, _, _, e, .ty _, ht.tx, kit_ty (h H x t ht), q⟩
theorem is_list : CallR X (.builtin "isinstance") (rIs "list" fun _ t => decide (t = "list")) := call_isTy _ _ fun _ _ _ h => h.kl
theorem is_tuple : CallR X (.builtin "isinstance") (rIs "tuple" fun _ t => decide (t = "tuple")) := call_isTy _ _ fun _ _ _ h => h.kt
theorem is_str : CallR X (.builtin "isinstance") (rIs "str" fun _ t => decide (t = "str")) := call_isTy _ _ fun _ _ _ h => h.ks
theorem is_int : CallR X (.builtin "isinstance") (rIs "int" fun x _ => isI x || isB x) := call_isTy _ _ fun _ _ _ h => h.ki
theorem is_bool : CallR X (.builtin "isinstance") (rIs "bool" fun x _ => isB x) := call_isTy _ _ fun _ _ _ h => h.kb
end
/-! ### comprehensions, shorter: one item for each, those that a test keeps, items that draw -/
section
variable {K : PySem.W.Frag} {a b s : Addr} {g : TG} {tt : TT} {te : TE} {vs : List Nat} {σ : L2.St} {H1 : Hp} {D : Addr} {Qd : Hp → Prop} {α β : Type}
abbrev LcG (I : It) (g : TG) (tt : TT) (te : TE) (vs : List Nat) (σ : L2.St) (H1 : Hp) (D : Addr) (Qd : Hp → Prop) : Prop :=
    ∃ W : Nat → Nat → Hp → Prop, (∃ m, W 0 m (upd H1 D (.lst []))) ∧ ∀ i m H, W i m H →
      (I.stop i H ∧ Qd H) ∨ (I.go i H ∧ ∃ Nx : Hp → Prop, (∀ H', Nx H' → ∃ m', m' < m ∧ W (i + 1) m' H') ∧ ∀ x H', I.yld i H x H' → g x (wipe σ vs) H' fun σ2 H2 => wipe σ2 vs = wipe σ vs ∧ tt σ2 H2 fun b H3 =>
        if b = true then te σ2 H3 fun y H4 => ∃ acc, H4 D = some (.lst acc) ∧ acc.length < sizeLine ∧ Nx (upd H4 D (.lst (acc ++ [y]))) else Nx H3)
def ysF (f : α → V) (q : α → Bool) (xs : List α) (i : Nat) : Option V := xs[i]?.bind fun x => if q x = true then some (f x) else none
theorem ysF_all (f : α → V) (q : α → Bool) (xs : List α) : lcYs xs.length (ysF f q xs) = (xs.filter q).map f := lcYs_filter q f xs _ fun i x h => by unfold ysF; rw [h]; rfl
theorem ysF_one (f : α → V) (xs : List α) : lcYs xs.length (ysF f (fun _ => true) xs) = xs.map f := by
  rw [ysF_all, List.filter_eq_self.mpr fun _ _ => rfl]
theorem of_map {ρ : α → V} {ys : List α} {i : Nat} {x : V} (h : (ys.map ρ)[i]? = some x) : ∃ y, ys[i]? = some y ∧ x = ρ y := by
  rw [List.getElem?_map] at h
  cases e : ys[i]? with
  | none => rw [e] at h; cases h
  | some z => rw [e] at h; exact ⟨z, rfl, (Option.some.inj h).symm⟩
theorem lcLf (ρ f : α → V) (q : α → Bool) {ys : List α} (hD : H1 D = none) (hx : SqL K H1 a (ys.map ρ)) (hn : ys.length ≤ 100000)
    (hs : ∀ (i : Nat) (y : α) (H : Hp) (Kt : V → Hp → Prop) (Kf : Hp → Prop), ys[i]? = some y → Same H1 H → (q y = true → ∀ H4, Same H H4 → Kt (f y) H4) → (q y = false → ∀ H4, Same H H4 → Kf H4) → LcT g tt te vs σ (ρ y) H Kt Kf)
    (hd : ∀ H, Same H1 H → H D = some (.lst ((ys.filter q).map f)) → Qd H) : LcG (Itl K a) g tt te vs σ H1 D Qd :=
  lcLq (ysF f q ys) hD hx (by rw [List.length_map]; exact hn) (fun i x H Kt Kf hxi s qq => by
    obtain ⟨y, hy, rfl⟩ := of_map hxi
    exact hs i y H Kt Kf hy s (fun e H4 s4 => qq.yes _ _ s4 (by unfold ysF; rw [hy]; exact if_pos e)) (fun e H4 s4 => qq.no _ s4 (by unfold ysF; rw [hy]; exact if_neg (by rw [e]; simp))))
    (fun H s h => hd H s (by rw [h, List.length_map, ysF_all]))
theorem lcLm (ρ f : α → V) {ys : List α} (hD : H1 D = none) (hx : SqL K H1 a (ys.map ρ)) (hn : ys.length ≤ 100000)
    (hs : ∀ (i : Nat) (y : α) (H : Hp) (Kt : V → Hp → Prop) (Kf : Hp → Prop), ys[i]? = some y → Same H1 H → (∀ H4, Same H H4 → Kt (f y) H4) → LcT g tt te vs σ (ρ y) H Kt Kf)
    (hd : ∀ H, Same H1 H → H D = some (.lst (ys.map f)) → Qd H) : LcG (Itl K a) g tt te vs σ H1 D Qd :=
  lcLf ρ f (fun _ => true) hD hx hn (fun i y H Kt Kf hy s h _ => hs i y H Kt Kf hy s (h rfl)) (fun H s h => hd H s (by rw [h, List.filter_eq_self.mpr fun _ _ => rfl]))
theorem lcTf (ρ f : α → V) (q : α → Bool) {ys : List α} (hD : H1 D = none) (hx : SqT K H1 a (ys.map ρ)) (hn : ys.length ≤ 100000)
    (hs : ∀ (i : Nat) (y : α) (H : Hp) (Kt : V → Hp → Prop) (Kf : Hp → Prop), ys[i]? = some y → Same H1 H → (q y = true → ∀ H4, Same H H4 → Kt (f y) H4) → (q y = false → ∀ H4, Same H H4 → Kf H4) → LcT g tt te vs σ (ρ y) H Kt Kf)
    (hd : ∀ H, Same H1 H → H D = some (.lst ((ys.filter q).map f)) → Qd H) : LcG (Itt K a) g tt te vs σ H1 D Qd :=
  lcTq (ysF f q ys) hD hx (by rw [List.length_map]; exact hn) (fun i x H Kt Kf hxi s qq => by
    obtain ⟨y, hy, rfl⟩ := of_map hxi
    exact hs i y H Kt Kf hy s (fun e H4 s4 => qq.yes _ _ s4 (by unfold ysF; rw [hy]; exact if_pos e)) (fun e H4 s4 => qq.no _ s4 (by unfold ysF; rw [hy]; exact if_neg (by rw [e]; simp))))
    (fun H s h => hd H s (by rw [h, List.length_map, ysF_all]))
theorem lcTm (ρ f : α → V) {ys : List α} (hD : H1 D = none) (hx : SqT K H1 a (ys.map ρ)) (hn : ys.length ≤ 100000)
    (hs : ∀ (i : Nat) (y : α) (H : Hp) (Kt : V → Hp → Prop) (Kf : Hp → Prop), ys[i]? = some y → Same H1 H → (∀ H4, Same H H4 → Kt (f y) H4) → LcT g tt te vs σ (ρ y) H Kt Kf)
    (hd : ∀ H, Same H1 H → H D = some (.lst (ys.map f)) → Qd H) : LcG (Itt K a) g tt te vs σ H1 D Qd :=
  lcTf ρ f (fun _ => true) hD hx hn (fun i y H Kt Kf hy s h _ => hs i y H Kt Kf hy s (h rfl)) (fun H s h => hd H s (by rw [h, List.filter_eq_self.mpr fun _ _ => rfl]))
theorem range_get {n i : Nat} (h : i < n) : (List.range n)[i]? = some i := List.getElem?_range h
theorem lcRf {lo : Int} {n : Nat} (f : Nat → V) (q : Nat → Bool) (hD : H1 D = none) (hn : n ≤ 100000)
    (hs : ∀ (i : Nat) (H : Hp) (Kt : V → Hp → Prop) (Kf : Hp → Prop), i < n → Same H1 H → (q i = true → ∀ H4, Same H H4 → Kt (f i) H4) → (q i = false → ∀ H4, Same H H4 → Kf H4) → LcT g tt te vs σ (.int (lo + i)) H Kt Kf)
    (hd : ∀ H, Same H1 H → H D = some (.lst (((List.range n).filter q).map f)) → Qd H) : LcG (Itr lo n) g tt te vs σ H1 D Qd :=
  lcRq (ysF f q (List.range n)) hD hn (fun i H Kt Kf hi s qq =>
    hs i H Kt Kf hi s (fun e H4 s4 => qq.yes _ _ s4 (by unfold ysF; rw [range_get hi]; exact if_pos e)) (fun e H4 s4 => qq.no _ s4 (by unfold ysF; rw [range_get hi]; exact if_neg (by rw [e]; simp))))
    (fun H s h => hd H s (by have := ysF_all f q (List.range n); rw [List.length_range] at this; rw [h, this]))
theorem lcRm {lo : Int} {n : Nat} (f : Nat → V) (hD : H1 D = none) (hn : n ≤ 100000)
    (hs : ∀ (i : Nat) (H : Hp) (Kt : V → Hp → Prop) (Kf : Hp → Prop), i < n → Same H1 H → (∀ H4, Same H H4 → Kt (f i) H4) → LcT g tt te vs σ (.int (lo + i)) H Kt Kf)
    (hd : ∀ H, Same H1 H → H D = some (.lst ((List.range n).map f)) → Qd H) : LcG (Itr lo n) g tt te vs σ H1 D Qd :=
  lcRf f (fun _ => true) hD hn (fun i H Kt Kf hi s h _ => hs i H Kt Kf hi s (h rfl)) (fun H s h => hd H s (by rw [h, List.filter_eq_self.mpr fun _ _ => rfl]))
/-- items that draw from the source at s -/
theorem lcRd {lo : Int} {n : Nat} (ρ : β → V) (R : Nat → β → Prop) (h0 : Src H1 s) (hD : H1 D = none) (hn : n ≤ 100000)
    (hs : ∀ (i : Nat) (H : Hp) (Kt : V → Hp → Prop) (Kf : Hp → Prop), i < n → Dr s H1 H → (∀ b H4, Dr s H H4 → R i b → Kt (ρ b) H4) → LcT g tt te vs σ (.int (lo + i)) H Kt Kf)
    (hd : ∀ (us : List β) (H : Hp), Dr s H1 H → us.length = n → (∀ (i : Nat) (b : β), us[i]? = some b → R i b) → D ≠ s → H D = some (.lst (us.map ρ)) → Qd H) : LcG (Itr lo n) g tt te vs σ H1 D Qd :=
  have nD : D ≠ s := h0.ne hD
  lcR (fun i acc H' => Dr s H1 H' ∧ ∃ us : List β, acc = us.map ρ ∧ us.length = i ∧ ∀ (i : Nat) (b : β), us[i]? = some b → R i b)
    (fun H' s' _ => ⟨Dr.of h0 s', [], rfl, rfl, fun i b h => by cases h⟩) hD (fun i acc H' Kt Kf hi p e kk => by
      obtain ⟨dp, us, rfl, hul, hub⟩ := p
      exact hs i H' Kt Kf hi dp fun b H4 d4 hR => kk.yes _ _ (d4.app nD e) (Nat.lt_of_lt_of_le (show _ < 100001 by rw [List.length_map]; omega) (by decide)) fun H5 b5 g5 => ⟨Dr.mut (dp.trans d4) b5 hD nD.symm, us ++ [b], by rw [List.map_append]; rfl, by rw [List.length_append, hul]; rfl, fun j c hc => by
        by_cases hj : j < us.length
        · rw [List.getElem?_append_left hj] at hc; exact hub j c hc
        · have hj2 : j = i := by
            have := (List.getElem?_eq_some_iff.mp hc).1
            rw [List.length_append] at this
            simp at this; omega
          subst hj2
          rw [← hul, List.getElem?_concat_length] at hc
          cases hc; exact hR⟩)
    (fun acc H' p e => by
      obtain ⟨dp, us, rfl, hul, hub⟩ := p
      exact hd us H' dp hul hub nD e)
theorem lcLd (ρ0 : α → V) (ρ : β → V) (R : Nat → β → Prop) {ys : List α} (h0 : Src H1 s) (hD : H1 D = none) (na : a ≠ s) (hx : SqL K H1 a (ys.map ρ0)) (hn : ys.length ≤ 100000)
    (hs : ∀ (i : Nat) (y : α) (H : Hp) (Kt : V → Hp → Prop) (Kf : Hp → Prop), ys[i]? = some y → Dr s H1 H → (∀ b H4, Dr s H H4 → R i b → Kt (ρ b) H4) → LcT g tt te vs σ (ρ0 y) H Kt Kf)
    (hd : ∀ (us : List β) (H : Hp), Dr s H1 H → us.length = ys.length → (∀ (i : Nat) (b : β), us[i]? = some b → R i b) → D ≠ s → H D = some (.lst (us.map ρ)) → Qd H) : LcG (Itl K a) g tt te vs σ H1 D Qd :=
  have nD : D ≠ s := h0.ne hD
  lcL (fun i acc H' => Dr s H1 H' ∧ ∃ us : List β, acc = us.map ρ ∧ us.length = i ∧ ∀ (i : Nat) (b : β), us[i]? = some b → R i b)
    (fun H' s' _ => ⟨Dr.of h0 s', [], rfl, rfl, fun i b h => by cases h⟩) hD (fun i acc H' p => p.1.seq na hx) (fun i x acc H' Kt Kf hxi p e kk => by
      obtain ⟨y, hy, rfl⟩ := of_map hxi
      have hi := (List.getElem?_eq_some_iff.mp hy).1
      obtain ⟨dp, us, rfl, hul, hub⟩ := p
      exact hs i y H' Kt Kf hy dp fun b H4 d4 hR => kk.yes _ _ (d4.app nD e) (Nat.lt_of_lt_of_le (show _ < 100001 by rw [List.length_map]; omega) (by decide)) fun H5 b5 g5 => ⟨Dr.mut (dp.trans d4) b5 hD nD.symm, us ++ [b], by rw [List.map_append]; rfl, by rw [List.length_append, hul]; rfl, fun j c hc => by
        by_cases hj : j < us.length
        · rw [List.getElem?_append_left hj] at hc; exact hub j c hc
        · have hj2 : j = i := by
            have := (List.getElem?_eq_some_iff.mp hc).1
            rw [List.length_append] at this
            simp at this; omega
          subst hj2
          rw [← hul, List.getElem?_concat_length] at hc
          cases hc; exact hR⟩)
    (fun acc H' p e => by
      obtain ⟨dp, us, rfl, hul, hub⟩ := p
      rw [List.length_map] at hul
      exact hd us H' dp hul hub nD e)
/-- items that are new objects: R holds of each, as long as nothing but the list itself changes -/
theorem lcLs (ρ0 : α → V) {ys : List α} (R : Nat → V → Hp → Prop) (mono : ∀ i v H H' acc, R i v H → H D = some (.lst acc) → But D H H' → R i v H') (hD : H1 D = none) (hx : SqL K H1 a (ys.map ρ0)) (hn : ys.length ≤ 100000)
    (hs : ∀ (i : Nat) (y : α) (H : Hp) (Kt : V → Hp → Prop) (Kf : Hp → Prop) (acc : List V), ys[i]? = some y → Same H1 H → H D = some (.lst acc) → (∀ v H4, Same H H4 → R i v H4 → Kt v H4) → LcT g tt te vs σ (ρ0 y) H Kt Kf)
    (hd : ∀ (us : List V) (H : Hp), Same H1 H → us.length = ys.length → (∀ (i : Nat) (b : V), us[i]? = some b → R i b H) → H D = some (.lst us) → Qd H) : LcG (Itl K a) g tt te vs σ H1 D Qd :=
  lcL (fun i acc H' => Same H1 H' ∧ acc.length = i ∧ ∀ (i : Nat) (b : V), acc[i]? = some b → R i b H')
    (fun H' s' _ => ⟨s', rfl, fun i b h => by cases h⟩) hD (fun i acc H' p => p.1.seq hx) (fun i x acc H' Kt Kf hxi p e kk => by
      obtain ⟨y, hy, rfl⟩ := of_map hxi
      have hi := (List.getElem?_eq_some_iff.mp hy).1
      obtain ⟨dp, hul, hub⟩ := p
      exact hs i y H' Kt Kf acc hy dp e fun b H4 s4 hR => kk.yes _ _ (s4 _ _ e) (Nat.lt_of_lt_of_le (show _ < 100001 by omega) (by decide)) fun H5 b5 g5 => ⟨Same.mut' (dp.trans s4) b5 hD, by rw [List.length_append, hul]; rfl, fun j c hc => by
        by_cases hj : j < acc.length
        · rw [List.getElem?_append_left hj] at hc
          exact mono _ _ _ _ _ (mono _ _ _ _ _ (hub j c hc) e (Same.but s4)) (s4 _ _ e) b5
        · have hj2 : j = i := by
            have := (List.getElem?_eq_some_iff.mp hc).1
            rw [List.length_append] at this
            simp at this; omega
          subst hj2
          rw [← hul, List.getElem?_concat_length] at hc
          cases hc; exact mono _ _ _ _ _ hR (s4 _ _ e) b5⟩)
    (fun acc H' p e => by
      obtain ⟨dp, hul, hub⟩ := p
      rw [List.length_map] at hul
      exact hd acc H' dp hul hub e)
/-- items that are drawn and are new objects -/
theorem lcRo {lo : Int} {n : Nat} (R : Nat → V → Hp → Prop) (monoD : ∀ i v H H' acc, R i v H → H D = some (.lst acc) → But D H H' → R i v H') (monoS : ∀ i v H H', R i v H → Src H s → Dr s H H' → R i v H') (h0 : Src H1 s) (hD : H1 D = none) (hn : n ≤ 100000)
    (hs : ∀ (i : Nat) (H : Hp) (Kt : V → Hp → Prop) (Kf : Hp → Prop) (acc : List V), i < n → Dr s H1 H → H D = some (.lst acc) → (∀ v H4, Dr s H H4 → R i v H4 → Kt v H4) → LcT g tt te vs σ (.int (lo + i)) H Kt Kf)
    (hd : ∀ (us : List V) (H : Hp), Dr s H1 H → us.length = n → (∀ (i : Nat) (b : V), us[i]? = some b → R i b H) → D ≠ s → H D = some (.lst us) → Qd H) : LcG (Itr lo n) g tt te vs σ H1 D Qd :=
  have nD : D ≠ s := h0.ne hD
  lcR (fun i acc H' => Dr s H1 H' ∧ acc.length = i ∧ ∀ (i : Nat) (b : V), acc[i]? = some b → R i b H')
    (fun H' s' _ => ⟨Dr.of h0 s', rfl, fun i b h => by cases h⟩) hD (fun i acc H' Kt Kf hi p e kk => by
      obtain ⟨dp, hul, hub⟩ := p
      exact hs i H' Kt Kf acc hi dp e fun b H4 d4 hR => kk.yes _ _ (d4.app nD e) (Nat.lt_of_lt_of_le (show _ < 100001 by omega) (by decide)) fun H5 b5 g5 => ⟨Dr.mut (dp.trans d4) b5 hD nD.symm, by rw [List.length_append, hul]; rfl, fun j c hc => by
        by_cases hj : j < acc.length
        · rw [List.getElem?_append_left hj] at hc
          exact monoD _ _ _ _ _ (monoS _ _ _ _ (hub j c hc) dp.s d4) (d4.app nD e) b5
        · have hj2 : j = i := by
            have := (List.getElem?_eq_some_iff.mp hc).1
            rw [List.length_append] at this
            simp at this; omega
          subst hj2
          rw [← hul, List.getElem?_concat_length] at hc
          cases hc; exact monoD _ _ _ _ _ hR (d4.app nD e) b5⟩)
    (fun acc H' p e => by
      obtain ⟨dp, hul, hub⟩ := p
      exact hd acc H' dp hul hub nD e)
/-- over a list that stands for another one -/
theorem lcLr {xs : List V} {qs : List α} (f : α → V) (q : α → Bool) (hl : xs.length = qs.length) (hD : H1 D = none) (hx : SqL K H1 a xs) (hn : xs.length ≤ 100000)
    (hs : ∀ (i : Nat) (x : V) (y : α) (H : Hp) (Kt : V → Hp → Prop) (Kf : Hp → Prop), xs[i]? = some x → qs[i]? = some y → Same H1 H → (q y = true → ∀ H4, Same H H4 → Kt (f y) H4) → (q y = false → ∀ H4, Same H H4 → Kf H4) → LcT g tt te vs σ x H Kt Kf)
    (hd : ∀ H, Same H1 H → H D = some (.lst ((qs.filter q).map f)) → Qd H) : LcG (Itl K a) g tt te vs σ H1 D Qd :=
  lcLq (ysF f q qs) hD hx hn (fun i x H Kt Kf hxi s qq => by
    have hi := (List.getElem?_eq_some_iff.mp hxi).1
    have hy : qs[i]? = some qs[i] := List.getElem?_eq_getElem (by omega)
    exact hs i x _ H Kt Kf hxi hy s (fun e H4 s4 => qq.yes _ _ s4 (by unfold ysF; rw [hy]; exact if_pos e)) (fun e H4 s4 => qq.no _ s4 (by unfold ysF; rw [hy]; exact if_neg (by rw [e]; simp))))
    (fun H s h => hd H s (by rw [h, hl, ysF_all]))
/-- over zip, by places -/
theorem lcZf {xs zs : List V} {n : Nat} (X Z f : Nat → V) (q : Nat → Bool) (lx : xs.length = n) (lz : zs.length = n) (hX : ∀ i, i < n → xs[i]? = some (X i)) (hZ : ∀ i, i < n → zs[i]? = some (Z i)) (hD : H1 D = none) (hx : SqL K H1 a xs) (hz : SqL K H1 b zs) (hn : n ≤ 100000)
    (hs : ∀ (i : Nat) (T : Addr) (H : Hp) (Kt : V → Hp → Prop) (Kf : Hp → Prop), i < n → Same H1 H → H T = some (.tup [X i, Z i]) → (q i = true → ∀ H4, Same H H4 → Kt (f i) H4) → (q i = false → ∀ H4, Same H H4 → Kf H4) → LcT g tt te vs σ (.ref T) H Kt Kf)
    (hd : ∀ H, Same H1 H → H D = some (.lst (((List.range n).filter q).map f)) → Qd H) : LcG (Itz K a b) g tt te vs σ H1 D Qd :=
  lcZq (xs := xs) (zs := zs) (ysF f q (List.range n)) (by rw [lx, lz]) hD hx hz (by omega) (fun i x z T H Kt Kf hxi hzi s gT qq => by
    have hi : i < n := by have := (List.getElem?_eq_some_iff.mp hxi).1; omega
    rw [hX i hi] at hxi
    rw [hZ i hi] at hzi
    cases hxi
    cases hzi
    exact hs i T H Kt Kf hi s gT (fun e H4 s4 => qq.yes _ _ s4 (by unfold ysF; rw [range_get hi]; exact if_pos e)) (fun e H4 s4 => qq.no _ s4 (by unfold ysF; rw [range_get hi]; exact if_neg (by rw [e]; simp))))
    (fun H s h => hd H s (by have := ysF_all f q (List.range n); rw [List.length_range] at this; rw [h, lx, this]))
theorem lcZm {xs zs : List V} {n : Nat} (X Z f : Nat → V) (lx : xs.length = n) (lz : zs.length = n) (hX : ∀ i, i < n → xs[i]? = some (X i)) (hZ : ∀ i, i < n → zs[i]? = some (Z i)) (hD : H1 D = none) (hx : SqL K H1 a xs) (hz : SqL K H1 b zs) (hn : n ≤ 100000)
    (hs : ∀ (i : Nat) (T : Addr) (H : Hp) (Kt : V → Hp → Prop) (Kf : Hp → Prop), i < n → Same H1 H → H T = some (.tup [X i, Z i]) → (∀ H4, Same H H4 → Kt (f i) H4) → LcT g tt te vs σ (.ref T) H Kt Kf)
    (hd : ∀ H, Same H1 H → H D = some (.lst ((List.range n).map f)) → Qd H) : LcG (Itz K a b) g tt te vs σ H1 D Qd :=
  lcZf X Z f (fun _ => true) lx lz hX hZ hD hx hz hn (fun i T H Kt Kf hi s gT h _ => hs i T H Kt Kf hi s gT (h rfl)) (fun H s h => hd H s (by rw [h, List.filter_eq_self.mpr fun _ _ => rfl]))
/-- over a list, by places -/
theorem lcLxf {xs : List V} (f : Nat → V) (q : Nat → Bool) (hD : H1 D = none) (hx : SqL K H1 a xs) (hn : xs.length ≤ 100000)
    (hs : ∀ (i : Nat) (x : V) (H : Hp) (Kt : V → Hp → Prop) (Kf : Hp → Prop), xs[i]? = some x → Same H1 H → (q i = true → ∀ H4, Same H H4 → Kt (f i) H4) → (q i = false → ∀ H4, Same H H4 → Kf H4) → LcT g tt te vs σ x H Kt Kf)
    (hd : ∀ H, Same H1 H → H D = some (.lst (((List.range xs.length).filter q).map f)) → Qd H) : LcG (Itl K a) g tt te vs σ H1 D Qd :=
  lcLq (ysF f q (List.range xs.length)) hD hx hn (fun i x H Kt Kf hxi s qq => by
    have hi := (List.getElem?_eq_some_iff.mp hxi).1
    exact hs i x H Kt Kf hxi s (fun e H4 s4 => qq.yes _ _ s4 (by unfold ysF; rw [range_get hi]; exact if_pos e)) (fun e H4 s4 => qq.no _ s4 (by unfold ysF; rw [range_get hi]; exact if_neg (by rw [e]; simp))))
    (fun H s h => hd H s (by have := ysF_all f q (List.range xs.length); rw [List.length_range] at this; rw [h, this]))
theorem lcLx {xs : List V} (f : Nat → V) (hD : H1 D = none) (hx : SqL K H1 a xs) (hn : xs.length ≤ 100000)
    (hs : ∀ (i : Nat) (x : V) (H : Hp) (Kt : V → Hp → Prop) (Kf : Hp → Prop), xs[i]? = some x → Same H1 H → (∀ H4, Same H H4 → Kt (f i) H4) → LcT g tt te vs σ x H Kt Kf)
    (hd : ∀ H, Same H1 H → H D = some (.lst ((List.range xs.length).map f)) → Qd H) : LcG (Itl K a) g tt te vs σ H1 D Qd :=
  lcLxf f (fun _ => true) hD hx hn (fun i x H Kt Kf hx s h _ => hs i x H Kt Kf hx s (h rfl)) (fun H s h => hd H s (by rw [h, List.filter_eq_self.mpr fun _ _ => rfl]))
end
theorem all_true (n : Nat) : ((List.range n).map fun _ => true).all id = true := by simp
theorem bls (n : Nat) (f : Nat → Bool) : (List.range n).map (fun i => V.bl (f i)) = ((List.range n).map f).map V.bl := by rw [List.map_map]; rfl
/-- isinstance(x, (T1, T2)) of plain things -/
def rIs2 (T1 T2 : String) (ans : V → String → Bool) : List V → Hp → VK → Prop := fun xs H Q => ∃ (x : V) (tp : Addr) (t : String), xs = [x, .ref tp] ∧ Ty7 H x t ∧ H tp = some (.tup [.ty T1, .ty T2]) ∧ Q (.bl (ans x t)) H
theorem call_isTy2 {X : Cx} (T1 T2 : String) (a1 a2 : V → String → Bool) (h1 : ∀ H x t, Ty7 H x t → kitB t T1 = some (a1 x t)) (h2 : ∀ H x t, Ty7 H x t → kitB t T2 = some (a2 x t)) : CallR X (.builtin "isinstance") (rIs2 T1 T2 fun x t => a1 x t || a2 x t) :=
  callR_imp call_isiT fun _ H Q ⟨x, tp, t, e, ht, hp, q⟩ => ⟨x, tp, [.ty T1, .ty T2], _, [.type T1, .type T2], _, e, hp, .cons (.ty _) (.cons (.ty _) .nil), ht.tx, kitAny_cons (b := a1 x t) (kit_ty (h1 H x t ht)) (fun e1 => kitAny_cons (b := a2 x t) (kit_ty (h2 H x t ht)) (fun e2 => by simp only [e1, e2]; rfl) (fun e2 => by simp only [e1, e2]; rfl)) (fun e1 => by simp only [e1]; rfl), q⟩
theorem is_strtup {X : Cx} : CallR X (.builtin "isinstance") (rIs2 "str" "tuple" fun _ t => decide (t = "str") || decide (t = "tuple")) := call_isTy2 _ _ (fun _ t => decide (t = "str")) (fun _ t => decide (t = "tuple")) (fun _ _ _ h => h.ks) (fun _ _ _ h => h.kt)
/-- a list or a tuple -/
def SqE (K : PySem.W.Frag) (H : Hp) (a : Addr) (xs : List V) : Prop := SqL K H a xs ∨ SqT K H a xs
theorem SqE.same {K : PySem.W.Frag} {H H' : Hp} {a : Addr} {xs : List V} (h : SqE K H a xs) (s : Same H H') : SqE K H' a xs := h.imp (fun h => s.seq h) (fun h => Same.seqT s h)
theorem But.seqT {K : PySem.W.Frag} {H H' : Hp} {a b : Addr} {xs : List V} (e : But a H H') (n : b ≠ a) (h : SqT K H b xs) : SqT K H' b xs := by
  rcases h with (h | ⟨o, h⟩) | h
  · exact .inl (.inl (e _ _ n h))
  · exact .inl (.inr ⟨o, e _ _ n h⟩)
  · exact .inr h
theorem SqE.but {K : PySem.W.Frag} {H H' : Hp} {a b : Addr} {xs : List V} (h : SqE K H b xs) (e : But a H H') (n : b ≠ a) : SqE K H' b xs := h.imp (fun h => e.seq n h) (fun h => e.seqT n h)
theorem ixE {K : PySem.W.Frag} {H : Hp} {a : Addr} {xs : List V} {i : Int} {v : V} {Q : VK} (h : SqE K H a xs) (e : atI xs i = some v) (q : Q v H) : rIx K (.ref a) (.int i) H Q := by
  rcases h with h | h
  · exact .inl ⟨_, _, _, _, rfl, rfl, h, e, q⟩
  · exact .inr (.inl ⟨_, _, _, _, rfl, rfl, h, e, q⟩)
theorem atI_add {xs : List V} {f i : Nat} {v : V} (h : xs[f + i]? = some v) : atI xs ((f : Int) + (i : Int)) = some v := by
  rw [← Int.natCast_add]; exact atI_nat h
theorem pick_list {α : Type} {P : V → α → Prop} : ∀ (us : List V), (∀ (i : Nat) (v : V), us[i]? = some v → ∃ t, P v t) → ∃ ts : List α, us.length = ts.length ∧ ∀ (i : Nat) (v : V) (t : α), us[i]? = some v → ts[i]? = some t → P v t
  | [], _ => ⟨[], rfl, fun i v t h => by simp at h⟩
  | u :: us, h => by
    obtain ⟨t, ht⟩ := h 0 u rfl
    obtain ⟨ts, hl, hts⟩ := pick_list us fun i v hv => h (i + 1) v hv
    refine ⟨t :: ts, by rw [List.length_cons, List.length_cons, hl], fun i v t' hv ht' => ?_⟩
    cases i with
    | zero => cases hv; cases ht'; exact ht
    | succ i => exact hts i v t' hv ht'
end My

open PySem L2 My
/-! ### short steps -/
local macro_rules | `(tactic| tm_at "hp") => `(tactic| first
  | with_reducible assumption
  | exact upd_same
  | (with_reducible refine upd_keep ?hpn ?hpr; (case hpn => with_reducible assumption); (case hpr => tm_at "hp"))
  | (refine Eq.trans (upd_ne ?hpn) ?hpr; (case hpn => tm_at "ne"); (case hpr => tm_at "hp"))
  | (refine' Same.app ?hps ?hpr; (case hps => with_reducible assumption); (case hpr => tm_at "hp"))
  | (refine' Dr.app ?hps ?hpn ?hpr; (case hps => with_reducible assumption); (case hpr => tm_at "hp"); (case hpn => tm_at "ne"))
  | (refine' But.app ?hps ?hpn ?hpr; (case hps => with_reducible assumption); (case hpr => tm_at "hp"); (case hpn => tm_at "ne")))
local macro_rules | `(tactic| tm_at "ne") => `(tactic| first
  | with_reducible assumption
  | (with_reducible refine Ne.symm ?nes; (case nes => with_reducible assumption))
  | (refine' ne_of_none ?nea ?neb; (case neb => with_reducible assumption); (case nea => tm_at "hp"))
  | (refine' Src.ne ?nea ?neb; (case neb => with_reducible assumption); (case nea => tm_at "sr"))
  | (refine' Ne.symm (Src.ne ?nea ?neb); (case neb => with_reducible assumption); (case nea => tm_at "sr"))
  | (refine' Ne.symm (ne_of_none ?nea ?neb); (case neb => with_reducible assumption); (case nea => tm_at "hp")))
/-- a list, a tuple that stands -/
local macro_rules | `(tactic| tm_at "sql") => `(tactic| first
  | with_reducible assumption
  | (refine sqL ?sqa; (case sqa => tm_at "hp"))
  | (refine' Same.seq ?sqs ?sqa; (case sqs => with_reducible assumption); (case sqa => tm_at "sql"))
  | (refine' Dr.seq ?sqs ?sqn ?sqa; (case sqs => with_reducible assumption); (case sqa => tm_at "sql"); (case sqn => tm_at "ne"))
  | (refine' But.seq ?sqs ?sqn ?sqa; (case sqs => with_reducible assumption); (case sqa => tm_at "sql"); (case sqn => tm_at "ne")))
/-- all but a stands; all stands -/
local macro_rules | `(tactic| tm_at "bt") => `(tactic| first
  | with_reducible assumption
  | with_reducible exact But.refl
  | (with_reducible refine But.upd ?btx; (case btx => tm_at "bt"))
  | (with_reducible refine But.new ?btx ?bty; (case bty => with_reducible assumption); (case btx => tm_at "bt"))
  | (refine' But.trans ?btx ?bty; (case bty => with_reducible assumption); (case btx => tm_at "bt"))
  | (refine' But.trans ?btx (Same.but ?bty); (case bty => with_reducible assumption); (case btx => tm_at "bt")))
local macro_rules | `(tactic| tm_at "sm") => `(tactic| first
  | with_reducible assumption
  | with_reducible exact Same.refl _
  | (with_reducible refine Same.new ?btx ?bty; (case bty => with_reducible assumption); (case btx => tm_at "sm"))
  | (with_reducible refine Same.mut ?btx ?bty; (case bty => with_reducible assumption); (case btx => tm_at "sm"))
  | (refine' Same.mut' ?btx ?bty ?btn; (case bty => with_reducible assumption); (case btx => tm_at "sm"); (case btn => tm_at "fr"))
  | (refine' Same.trans ?btx ?bty; (case bty => with_reducible assumption); (case btx => tm_at "sm")))
/-- the source stands; draws from there to here -/
local macro_rules | `(tactic| tm_at "sr") => `(tactic| first
  | with_reducible assumption
  | (refine' Dr.s ?srd; (case srd => with_reducible assumption))
  | (refine' Src.same ?srh ?srd; (case srd => with_reducible assumption); (case srh => tm_at "sr"))
  | (refine' Src.but ?srh ?srd ?srn; (case srd => with_reducible assumption); (case srh => tm_at "sr"); (case srn => tm_at "ne")))
local macro_rules | `(tactic| tm_at "dr") => `(tactic| first
  | with_reducible assumption
  | (refine' Dr.trans ?drx ?dry; (case dry => with_reducible assumption); (case drx => tm_at "dr"))
  | (refine' Dr.same ?drx ?dry; (case dry => with_reducible assumption); (case drx => tm_at "dr"))
  | (refine' Dr.mut ?drx ?dry ?drn ?drm; (case dry => with_reducible assumption); (case drx => tm_at "dr"); (case drn => tm_at "fr"); (case drm => tm_at "ne"))
  | (refine' Dr.of ?drx ?dry; (case drx => tm_at "sr"); (case dry => tm_at "sm"))
  | (refine Dr.refl ?drx; (case drx => tm_at "sr")))
/-- nothing stood there -/
local macro_rules | `(tactic| tm_at "fr") => `(tactic| first
  | with_reducible assumption
  | (refine' Same.free ?frs ?frh; (case frh => with_reducible assumption); (case frs => tm_at "sm"))
  | (refine' Dr.free ?frs ?frh ?frn; (case frh => with_reducible assumption); (case frs => tm_at "dr"); (case frn => tm_at "ne")))
/-- an int's condition -/
local macro_rules | `(tactic| tm_at "ic") => `(tactic| first
  | assumption
  | omega
  | exact Nat.le_of_ble_eq_true rfl
  | exact ⟨by decide, by decide +kernel⟩
  | exact Or.inr ⟨by omega, by omega⟩
  | exact Or.inl ⟨by omega, by omega⟩
  | exact Or.inr ⟨by decide, by decide⟩
  | exact ⟨by decide, by decide, by decide⟩
  | exact wide_div (b := 64) (by omega) (by omega) (by decide) (by decide)
  | decide
  | tm_at "sr")
/-- a plain thing's kind -/
local macro_rules | `(tactic| tm_at "t7") => `(tactic| first
  | with_reducible assumption
  | with_reducible exact Ty7.int _
  | with_reducible exact Ty7.bl _
  | with_reducible exact Ty7.non
  | with_reducible exact Ty7.str _
  | (refine' Ty7.lst ?t7h; (case t7h => tm_at "hp"))
  | (refine' Ty7.tup ?t7h; (case t7h => tm_at "hp")))
/-- one step of a reading -/
local macro_rules | `(tactic| tm_at "rd") => `(tactic| first
  | refine ⟨_, rfl, ?_⟩
  | refine ⟨_, _, rfl, rfl, ?_⟩
  | (refine And.intro ?rdc ?_; (case rdc => (first | tm_at "ic" | (dsimp only; tm_at "ic"))))
  | refine ⟨_, _, rfl, ?_⟩
  | refine ⟨rfl, ?_⟩
  | (refine' ⟨_, _, rfl, ?rd7, ?_⟩; (case rd7 => tm_at "t7"))
  | (refine' ⟨_, _, rfl, Or.inl ⟨_, ?rdl, rfl⟩, ?_⟩; (case rdl => tm_at "sql"))
  | refine Or.inl ⟨_, rfl, ?_⟩
  | refine Or.inr ⟨_, rfl, ?_⟩)
local macro_rules | `(tactic| tm_at "rds") => `(tactic| repeat (tm_at "rd"))
/-- a tuple that stands -/
local macro_rules | `(tactic| tm_at "sqt") => `(tactic| first
  | with_reducible assumption
  | (refine sqT ?sqa; (case sqa => tm_at "hp"))
  | (refine' Same.seqT ?sqs ?sqa; (case sqs => with_reducible assumption); (case sqa => tm_at "sqt"))
  | (refine' Dr.seqT ?sqs ?sqn ?sqa; (case sqs => with_reducible assumption); (case sqa => tm_at "sqt"); (case sqn => tm_at "ne")))
/-- more steps: tests that are plain, items by a plain index, the length of a tuple -/
local macro_rules | `(tactic| tm_at "rz") => `(tactic| first
  | (refine' And.intro (Or.inl (And.intro rfl (Exists.intro _ ?rzt))) ?_; (case rzt => tm_at "sql"))
  | tm_at "rd"
  | (refine' ⟨_, _, rfl, Or.inr ⟨_, ?rdl, rfl⟩, ?_⟩; (case rdl => tm_at "sqt"))
  | (refine' ⟨_, _, _, _, rfl, rfl, ?rzl, ?rzi, ?_⟩; (case rzl => (first | tm_at "sql" | tm_at "sqt")); (case rzi => exact rfl))
  | (refine iteF' ?rzb ?_; (case rzb => (first | with_reducible rfl | rfl | decide)))
  | (refine iteT' ?rzb ?_; (case rzb => (first | with_reducible rfl | rfl | decide))))
local macro_rules | `(tactic| tm_at "rzs") => `(tactic| repeat (tm_at "rz"))
/-- .. up to an if that has something behind it -/
local macro_rules | `(tactic| tm_at "rzi") => `(tactic| repeat ((try dsimp only [gName]); (fail_if_success (with_reducible refine isIf ?_)); tm_at "rz"))
/-! ### totals dealt by caps and weights: plain mathematics -/
namespace My
open PySem L2
/-- the sum of f over some places -/
def S (f : Nat → Int) (R : List Nat) : Int := (R.map f).sum
theorem S_nil (f : Nat → Int) : S f [] = 0 := rfl
theorem S_cons (f : Nat → Int) (i : Nat) (R : List Nat) : S f (i :: R) = f i + S f R := by unfold S; rw [List.map_cons, List.sum_cons]
theorem S_append (f : Nat → Int) (R T : List Nat) : S f (R ++ T) = S f R + S f T := by unfold S; rw [List.map_append, List.sum_append]
theorem S_nonneg {f : Nat → Int} : ∀ {R : List Nat}, (∀ i ∈ R, 0 ≤ f i) → 0 ≤ S f R
  | [], _ => Int.le_refl 0
  | i :: R, h => by
    rw [S_cons]
    have h1 := h i (List.mem_cons_self ..)
    have h2 := S_nonneg (R := R) fun j hj => h j (List.mem_cons_of_mem _ hj)
    omega
theorem S_le {f g : Nat → Int} : ∀ {R : List Nat}, (∀ i ∈ R, f i ≤ g i) → S f R ≤ S g R
  | [], _ => Int.le_refl 0
  | i :: R, h => by
    rw [S_cons, S_cons]
    have h1 := h i (List.mem_cons_self ..)
    have h2 := S_le (R := R) fun j hj => h j (List.mem_cons_of_mem _ hj)
    omega
theorem S_lt {f g : Nat → Int} : ∀ {R : List Nat}, (∀ i ∈ R, f i < g i) → R ≠ [] → S f R < S g R
  | [], _, h => absurd rfl h
  | i :: R, h, _ => by
    rw [S_cons, S_cons]
    have h1 := h i (List.mem_cons_self ..)
    have h2 := S_le (R := R) fun j hj => Int.le_of_lt (h j (List.mem_cons_of_mem _ hj))
    omega
theorem S_congr {f g : Nat → Int} : ∀ {R : List Nat}, (∀ i ∈ R, f i = g i) → S f R = S g R
  | [], _ => rfl
  | i :: R, h => by
    rw [S_cons, S_cons, h i (List.mem_cons_self ..), S_congr (R := R) fun j hj => h j (List.mem_cons_of_mem _ hj)]
theorem S_mul (c : Int) (f : Nat → Int) : ∀ R : List Nat, S (fun i => c * f i) R = c * S f R
  | [] => (Int.mul_zero c).symm
  | i :: R => by rw [S_cons, S_cons, S_mul c f R, Int.mul_add]
theorem S_mul_r (c : Int) (f : Nat → Int) : ∀ R : List Nat, S (fun i => f i * c) R = S f R * c
  | [] => (Int.zero_mul c).symm
  | i :: R => by rw [S_cons, S_cons, S_mul_r c f R, Int.add_mul]
theorem S_split (f : Nat → Int) (p : Nat → Bool) : ∀ R : List Nat, S f R = S f (R.filter p) + S f (R.filter fun i => !p i)
  | [] => rfl
  | i :: R => by
    rw [S_cons, S_split f p R, List.filter_cons, List.filter_cons]
    cases h : p i with
    | true => simp only [Bool.not_true, if_true, Bool.false_eq_true, if_false]; rw [S_cons]; omega
    | false => simp only [Bool.not_false, if_true, Bool.false_eq_true, if_false]; rw [S_cons]; omega
theorem S_bound {f : Nat → Int} {c : Int} : ∀ {R : List Nat}, (∀ i ∈ R, f i ≤ c) → S f R ≤ c * R.length
  | [], _ => by simp [S_nil]
  | i :: R, h => by
    rw [S_cons, List.length_cons]
    have h1 := h i (List.mem_cons_self ..)
    have h2 := S_bound (R := R) fun j hj => h j (List.mem_cons_of_mem _ hj)
    have e : c * ((R.length + 1 : Nat) : Int) = c * R.length + c := by rw [Int.natCast_add, Int.mul_add]; simp
    omega
abbrev natsV (ch : List Nat) : List V := ch.map fun i : Nat => V.int (i : Int)
def wAt (ws : List Int) (i : Nat) : Int := ws.getD i 0
/-! #### the level -/
/-- what the removed ones keep: cap ≤ level times weight, while the level T / W only rises -/
theorem rise {T W C V : Int} (hW : 0 < W) (hC : C * W ≤ T * V) : T * (W - V) ≤ (T - C) * W := by
  rw [Int.mul_sub, Int.sub_mul]; omega
theorem keep_cap {c w T W T' W' : Int} (hW : 0 < W) (hw : 0 ≤ w) (hW' : 0 ≤ W') (h : c * W ≤ T * w) (hr : T * W' ≤ T' * W) : c * W' ≤ T' * w := by
  have h1 : c * W * W' ≤ T * w * W' := Int.mul_le_mul_of_nonneg_right h hW'
  have h2 : T * W' * w ≤ T' * W * w := Int.mul_le_mul_of_nonneg_right hr hw
  have e1 : c * W * W' = c * W' * W := by rw [Int.mul_assoc, Int.mul_comm W W', ← Int.mul_assoc]
  have e2 : T * w * W' = T * W' * w := by rw [Int.mul_assoc, Int.mul_comm w W', ← Int.mul_assoc]
  have e3 : T' * W * w = T' * w * W := by rw [Int.mul_assoc, Int.mul_comm W w, ← Int.mul_assoc]
  exact Int.le_of_mul_le_mul_right (by rw [← e1, ← e3]; omega) hW
/-- behind the rest: what is weighed so far -/
def pre (w : Nat → Int) (p : Nat → Bool) : Nat → Int
  | 0 => 0
  | i + 1 => pre w p i + if p i then w i else 0
/-- what one gets by running sums -/
def part (t b beh w : Int) : Int := t * (beh + w) / b - t * beh / b
/-- the pairs that running tells -/
def runD (t b : Int) (w : Nat → Int) : List Nat → Int → List (Nat × Int)
  | [], _ => []
  | i :: r, beh => (i, part t b beh (w i)) :: runD t b w r (beh + w i)
theorem runD_append (t b : Int) (w : Nat → Int) (i : Nat) : ∀ (l : List Nat) (beh : Int), runD t b w (l ++ [i]) beh = runD t b w l beh ++ [(i, part t b (beh + S w l) (w i))]
  | [], beh => by simp [runD, S_nil]
  | j :: l, beh => by
    rw [List.cons_append]
    simp only [runD]
    rw [runD_append t b w i l (beh + w j), S_cons, Int.add_assoc, List.cons_append]
theorem runD_fst (t b : Int) (w : Nat → Int) : ∀ (l : List Nat) (beh : Int), (runD t b w l beh).map (·.1) = l
  | [], _ => rfl
  | i :: l, beh => by simp only [runD, List.map_cons]; rw [runD_fst t b w l]
theorem pre_eq (w : Nat → Int) (p : Nat → Bool) : ∀ n, pre w p n = S w ((List.range n).filter p)
  | 0 => rfl
  | n + 1 => by
    rw [List.range_succ, List.filter_append, S_append, ← pre_eq w p n]
    simp only [pre, List.filter_cons, List.filter_nil]
    cases p n <;> simp [S_cons, S_nil]
theorem runD_range (t b : Int) (w : Nat → Int) (p : Nat → Bool) : ∀ n, ∀ q ∈ runD t b w ((List.range n).filter p) 0, p q.1 = true ∧ q.1 < n ∧ q.2 = part t b (pre w p q.1) (w q.1)
  | 0, q, h => by simp [runD] at h
  | n + 1, q, h => by
    rw [List.range_succ, List.filter_append] at h
    cases hp : p n with
    | false =>
      rw [List.filter_cons, hp] at h
      simp only [Bool.false_eq_true, if_false, List.filter_nil, List.append_nil] at h
      obtain ⟨h1, h2, h3⟩ := runD_range t b w p n q h
      exact ⟨h1, by omega, h3⟩
    | true =>
      rw [List.filter_cons, hp] at h
      simp only [if_true, List.filter_nil] at h
      rw [runD_append] at h
      rcases List.mem_append.mp h with h | h
      · obtain ⟨h1, h2, h3⟩ := runD_range t b w p n q h
        exact ⟨h1, by omega, h3⟩
      · simp only [List.mem_singleton] at h
        subst h
        exact ⟨hp, by simp, by simp [pre_eq]⟩
/-- found, set by pairs -/
def putAll (f : List Int) (ps : List (Nat × Int)) : List Int := ps.foldl (fun f q => f.set q.1 q.2) f
theorem putAll_len : ∀ (ps : List (Nat × Int)) (f : List Int), (putAll f ps).length = f.length
  | [], _ => rfl
  | q :: ps, f => by
    show (putAll (f.set q.1 q.2) ps).length = _
    rw [putAll_len ps, List.length_set]
theorem putAll_out {i : Nat} : ∀ (ps : List (Nat × Int)) (f : List Int), i ∉ ps.map (·.1) → (putAll f ps)[i]? = f[i]?
  | [], _, _ => rfl
  | q :: ps, f, h => by
    show (putAll (f.set q.1 q.2) ps)[i]? = _
    rw [List.map_cons, List.mem_cons, not_or] at h
    rw [putAll_out ps _ h.2, List.getElem?_set_ne (fun e => h.1 e.symm)]
theorem putAll_in {g : Nat → Int} {i : Nat} : ∀ (ps : List (Nat × Int)) (f : List Int), (∀ q ∈ ps, q.2 = g q.1) → i ∈ ps.map (·.1) → i < f.length → (putAll f ps)[i]? = some (g i)
  | [], _, _, h, _ => by simp at h
  | q :: ps, f, hg, h, hl => by
    show (putAll (f.set q.1 q.2) ps)[i]? = _
    by_cases hm : i ∈ ps.map (·.1)
    · exact putAll_in ps _ (fun r hr => hg r (List.mem_cons_of_mem _ hr)) hm (by rw [List.length_set]; exact hl)
    · rw [putAll_out ps _ hm]
      rw [List.map_cons, List.mem_cons] at h
      rcases h with e | h
      · subst e
        rw [List.getElem?_set_self hl, hg q (List.mem_cons_self ..)]
      · exact absurd h hm
/-! #### the spec, and the loop -/
def capN (cap : Nat → Option Int) (i : Nat) : Int := (cap i).getD 0
/-- who has weight -/
def wtd (n : Nat) (w : Nat → Int) : List Nat := (List.range n).filter fun i => decide (0 < w i)
/-- the cap is no more than level times weight -/
def heldB (t b : Int) (w : Nat → Int) (cap : Nat → Option Int) (i : Nat) : Bool := match cap i with
  | some c => decide (c * b ≤ t * w i)
  | none => false
/-- who is dealt to by the level -/
def restB (t b : Int) (w : Nat → Int) (cap : Nat → Option Int) (i : Nat) : Bool := decide (0 < w i) && !heldB t b w cap i
def less (c : Option Int) (b x : Int) : Int := match c with
  | some c => min (c * b) x
  | none => x
structure Dealt (n : Nat) (w : Nat → Int) (cap : Nat → Option Int) (total : Int) (lv : Option (Int × Int)) (fs : List Int) : Prop where
  len : fs.length = n
  zero : ∀ i, i < n → w i ≤ 0 → fs[i]? = some 0
  non : lv = none → (∀ i, i < n → 0 < w i → ∃ c, cap i = some c ∧ fs[i]? = some c) ∧ S (capN cap) (wtd n w) ≤ total
  lev : ∀ t b, lv = some (t, b) → 0 ≤ t ∧ 0 < b ∧ Int.gcd t b = 1 ∧ ¬ ((∀ i, i < n → 0 < w i → (cap i).isSome = true) ∧ S (capN cap) (wtd n w) ≤ total) ∧
    S (fun i => less (cap i) b (t * w i)) (wtd n w) = total * b ∧
    ∀ i, i < n → 0 < w i → fs[i]? = some (if heldB t b w cap i then capN cap i else part t b (pre w (restB t b w cap) i) (w i))
/-- between two turns: who is left (p), what is left (T) -/
structure DI (n : Nat) (w : Nat → Int) (cap : Nat → Option Int) (total : Int) (p : Nat → Bool) (T : Int) (f : List Int) : Prop where
  len : f.length = n
  pw : ∀ i, i < n → p i = true → 0 < w i
  tn : 0 ≤ T
  out : ∀ i, i < n → 0 < w i → p i = false → ∃ c, cap i = some c ∧ f[i]? = some c ∧ c * S w ((List.range n).filter p) ≤ T * w i
  yet : ∀ i, i < n → (p i = true ∨ w i ≤ 0) → f[i]? = some 0
  sum : T + S (capN cap) ((List.range n).filter fun i => decide (0 < w i) && !p i) = total
section
variable {n : Nat} {w : Nat → Int} {cap : Nat → Option Int} {total T : Int} {p : Nat → Bool} {f : List Int}
theorem filter_congr' {q r : Nat → Bool} {l : List Nat} (h : ∀ i ∈ l, q i = r i) : l.filter q = l.filter r := List.filter_congr h
theorem DI.start (h0 : 0 ≤ total) : DI n w cap total (fun i => decide (0 < w i)) total (List.replicate n 0) := by
  refine ⟨List.length_replicate, fun i _ h => of_decide_eq_true h, h0, fun i _ h1 h2 => absurd h1 (of_decide_eq_false h2), fun i hi _ => by rw [List.getElem?_replicate, if_pos hi], ?_⟩
  have e : ((List.range n).filter fun i => decide (0 < w i) && !decide (0 < w i)) = [] := by
    rw [List.filter_eq_nil_iff]
    intro i _
    cases decide (0 < w i) <;> simp
  rw [e, S_nil]; omega
/-- nobody is left -/
theorem DI.fin0 (d : DI n w cap total p T f) (he : (List.range n).filter p = []) : Dealt n w cap total none f := by
  have hp : ∀ i, i < n → p i = false := fun i hi => by
    have := List.filter_eq_nil_iff.mp he i (List.mem_range.mpr hi)
    simpa using this
  refine ⟨d.len, fun i hi h => d.yet i hi (.inr h), fun _ => ⟨fun i hi h => ?_, ?_⟩, fun t b h => by cases h⟩
  · obtain ⟨c, h1, h2, _⟩ := d.out i hi h (hp i hi)
    exact ⟨c, h1, h2⟩
  · have e : wtd n w = ((List.range n).filter fun i => decide (0 < w i) && !p i) := filter_congr' fun i hi => by
      rw [hp i (List.mem_range.mp hi)]; simp
    rw [e]
    have := d.sum
    have := d.tn
    omega
/-- who has no more than level times weight as a cap -/
def fullB (T W : Int) (w : Nat → Int) (cap : Nat → Option Int) (i : Nat) : Bool := heldB T W w cap i
theorem S_pos {R : List Nat} (h : ∀ i ∈ R, 0 < w i) (hne : R ≠ []) : 0 < S w R := by
  have := S_lt (f := fun _ => 0) (g := w) h hne
  have e : S (fun _ => 0) R = 0 := by
    have : ∀ R : List Nat, S (fun _ => 0) R = 0 := fun R => by
      induction R with
      | nil => rfl
      | cons i R ih => rw [S_cons, ih]; rfl
    exact this R
  omega
theorem heldB_some {t b : Int} {i : Nat} (h : heldB t b w cap i = true) : ∃ c, cap i = some c ∧ c * b ≤ t * w i := by
  unfold heldB at h
  cases e : cap i with
  | none => rw [e] at h; cases h
  | some c => rw [e] at h; exact ⟨c, rfl, of_decide_eq_true h⟩
theorem heldB_iff {t b c : Int} {i : Nat} (e : cap i = some c) : heldB t b w cap i = decide (c * b ≤ t * w i) := by
  unfold heldB
  rw [e]
theorem filter_and (q r : Nat → Bool) (l : List Nat) : (l.filter q).filter r = l.filter fun i => q i && r i := by
  rw [List.filter_filter]
  exact List.filter_congr fun i _ => by rw [Bool.and_comm]
/-- one turn -/
theorem DI.turn (d : DI n w cap total p T f) (W : Int) (hW : W = S w ((List.range n).filter p)) (hne : (List.range n).filter p ≠ []) (full : List Nat) (hfull : full = ((List.range n).filter p).filter (heldB T W w cap)) :
    DI n w cap total (fun i => p i && !heldB T W w cap i) (T - S (capN cap) full) (putAll f (full.map fun i => (i, capN cap i))) := by
  have hpos : ∀ i ∈ (List.range n).filter p, 0 < w i := fun i hi => by
    obtain ⟨h1, h2⟩ := List.mem_filter.mp hi
    exact d.pw i (List.mem_range.mp h1) h2
  have W0 : 0 < W := by rw [hW]; exact S_pos hpos hne
  have mfull : ∀ i, i ∈ full ↔ (i < n ∧ p i = true) ∧ heldB T W w cap i = true := fun i => by
    rw [hfull, List.mem_filter, List.mem_filter, List.mem_range]
  -- C * W ≤ T * V
  have hC : S (capN cap) full * W ≤ T * S w full := by
    rw [← S_mul_r, ← S_mul]
    refine S_le fun i hi => ?_
    obtain ⟨c, e, h⟩ := heldB_some ((mfull i).mp hi).2
    show (cap i).getD 0 * W ≤ T * w i
    rw [e]; exact h
  have hsp : W = S w full + S w ((List.range n).filter fun i => p i && !heldB T W w cap i) := by
    have e := S_split w (heldB T W w cap) ((List.range n).filter p)
    rw [← hfull, filter_and, ← hW] at e
    exact e
  have V0 : S w full ≤ W := by
    have : 0 ≤ S w ((List.range n).filter fun i => p i && !heldB T W w cap i) := S_nonneg fun i hi => by
      obtain ⟨h1, h2⟩ := List.mem_filter.mp hi
      have := d.pw i (List.mem_range.mp h1) (Bool.and_eq_true_iff.mp h2).1
      omega
    omega
  have T0 : 0 ≤ T - S (capN cap) full := by
    have h1 : T * S w full ≤ T * W := Int.mul_le_mul_of_nonneg_left V0 d.tn
    have h2 : S (capN cap) full * W ≤ T * W := Int.le_trans hC h1
    have := Int.le_of_mul_le_mul_right h2 W0
    omega
  have hr := rise W0 hC
  have eW' : W - S w full = S w ((List.range n).filter fun i => p i && !heldB T W w cap i) := by omega
  rw [eW'] at hr
  have W'0 : 0 ≤ S w ((List.range n).filter fun i => p i && !heldB T W w cap i) := by omega
  have fst : (full.map fun i => (i, capN cap i)).map (·.1) = full := by rw [List.map_map]; exact List.map_id'' (fun _ => rfl) _
  refine ⟨by rw [putAll_len]; exact d.len, fun i hi h => d.pw i hi (Bool.and_eq_true_iff.mp h).1, T0, fun i hi hw hp' => ?_, fun i hi h => ?_, ?_⟩
  · cases hp : p i with
    | false =>
      obtain ⟨c, h1, h2, h3⟩ := d.out i hi hw hp
      refine ⟨c, h1, ?_, ?_⟩
      · rw [putAll_out _ _ (by rw [fst]; intro hm; have := ((mfull i).mp hm).1.2; rw [hp] at this; cases this)]
        exact h2
      · rw [← hW] at h3
        exact keep_cap W0 (Int.le_of_lt hw) W'0 h3 hr
    | true =>
      have hh : heldB T W w cap i = true := by rw [hp] at hp'; simpa using hp'
      obtain ⟨c, e, h⟩ := heldB_some hh
      refine ⟨c, e, ?_, keep_cap W0 (Int.le_of_lt hw) W'0 h hr⟩
      have := putAll_in (g := capN cap) (i := i) (full.map fun i => (i, capN cap i)) f (fun q hq => by
        obtain ⟨j, _, e⟩ := List.mem_map.mp hq
        rw [← e]) (by rw [fst]; exact (mfull i).mpr ⟨⟨hi, hp⟩, hh⟩) (by rw [d.len]; exact hi)
      rw [this]
      show some ((cap i).getD 0) = some c
      rw [e]; rfl
  · have hn : i ∉ full := fun hm => by
      obtain ⟨⟨_, h1⟩, h2⟩ := (mfull i).mp hm
      rcases h with h | h
      · rw [h1, h2] at h; cases h
      · have := d.pw i hi h1; omega
    rw [putAll_out _ _ (by rw [fst]; exact hn)]
    refine d.yet i hi ?_
    rcases h with h | h
    · exact .inl (Bool.and_eq_true_iff.mp h).1
    · exact .inr h
  · have e1 : S (capN cap) ((List.range n).filter fun i => decide (0 < w i) && !(p i && !heldB T W w cap i)) = S (capN cap) full + S (capN cap) ((List.range n).filter fun i => decide (0 < w i) && !p i) := by
      have e := S_split (capN cap) p ((List.range n).filter fun i => decide (0 < w i) && !(p i && !heldB T W w cap i))
      rw [filter_and, filter_and] at e
      rw [e]
      congr 1
      · congr 1
        rw [hfull, filter_and]
        refine filter_congr' fun i hi => ?_
        have := d.pw i (List.mem_range.mp hi)
        cases hp : p i with
        | false => simp
        | true =>
          rw [decide_eq_true (this hp)]
          cases heldB T W w cap i <;> rfl
      · congr 1
        refine filter_congr' fun i _ => ?_
        cases p i <;> simp
    rw [e1]
    have := d.sum
    omega
/-- nobody is held any more: the level -/
theorem DI.fin1 (d : DI n w cap total p T f) (W : Int) (hW : W = S w ((List.range n).filter p)) (hne : (List.range n).filter p ≠ []) (hfull : ((List.range n).filter p).filter (heldB T W w cap) = []) {t b g : Int}
    (eT : T = t * g) (eW : W = b * g) (hg : 0 < g) (hgcd : Int.gcd t b = 1) :
    Dealt n w cap total (some (t, b)) (putAll f (runD t b w ((List.range n).filter p) 0)) := by
  have hpos : ∀ i ∈ (List.range n).filter p, 0 < w i := fun i hi => by
    obtain ⟨h1, h2⟩ := List.mem_filter.mp hi
    exact d.pw i (List.mem_range.mp h1) h2
  have W0 : 0 < W := by rw [hW]; exact S_pos hpos hne
  have b0 : 0 < b := Int.pos_of_mul_pos_right (by rw [Int.mul_comm] at eW; rw [← eW]; exact W0) hg
  have t0 : 0 ≤ t := by
    by_cases h : 0 ≤ t
    · exact h
    · have : t * g < 0 := Int.mul_neg_of_neg_of_pos (by omega) hg
      have := d.tn
      omega
  have cmp : ∀ c i, (c * W ≤ T * w i ↔ c * b ≤ t * w i) := fun c i => by
    have e1 : c * W = c * b * g := by rw [eW, Int.mul_assoc]
    have e2 : T * w i = t * w i * g := by rw [eT, Int.mul_assoc, Int.mul_comm g, ← Int.mul_assoc]
    rw [e1, e2]
    exact ⟨fun h => Int.le_of_mul_le_mul_right h hg, fun h => Int.mul_le_mul_of_nonneg_right h (Int.le_of_lt hg)⟩
  have hheld : ∀ i, heldB t b w cap i = heldB T W w cap i := fun i => by
    unfold heldB
    cases cap i with
    | none => rfl
    | some c => exact decide_eq_decide.mpr (cmp c i).symm
  have hrest : ∀ i, i < n → restB t b w cap i = p i := fun i hi => by
    unfold restB
    rw [hheld]
    cases hp : p i with
    | true =>
      have hw := d.pw i hi hp
      have hm : i ∈ (List.range n).filter p := List.mem_filter.mpr ⟨List.mem_range.mpr hi, hp⟩
      have hh := List.filter_eq_nil_iff.mp hfull i hm
      rw [decide_eq_true hw]
      simpa using hh
    | false =>
      by_cases hw : 0 < w i
      · obtain ⟨c, e, _, h⟩ := d.out i hi hw hp
        rw [← hW] at h
        rw [heldB_iff e, decide_eq_true h]
        simp
      · rw [decide_eq_false hw]; rfl
  have epre : ∀ i, i ≤ n → pre w (restB t b w cap) i = pre w p i := by
    intro i hi
    rw [pre_eq, pre_eq]
    congr 1
    exact filter_congr' fun j hj => hrest j (by have := List.mem_range.mp hj; omega)
  have hrun := runD_range t b w p n
  have fst : (runD t b w ((List.range n).filter p) 0).map (·.1) = (List.range n).filter p := runD_fst ..
  have hin : ∀ i, i < n → p i = true → (putAll f (runD t b w ((List.range n).filter p) 0))[i]? = some (part t b (pre w p i) (w i)) := fun i hi hp =>
    putAll_in (g := fun i => part t b (pre w p i) (w i)) _ f (fun q hq => (hrun q hq).2.2) (by rw [fst]; exact List.mem_filter.mpr ⟨List.mem_range.mpr hi, hp⟩) (by rw [d.len]; exact hi)
  have hout : ∀ i, i < n → p i = false → (putAll f (runD t b w ((List.range n).filter p) 0))[i]? = f[i]? := fun i hi hp =>
    putAll_out _ f (by rw [fst]; intro hm; have := (List.mem_filter.mp hm).2; rw [hp] at this; cases this)
  -- those who have weight: the removed and the rest
  have hsplit : ∀ g : Nat → Int, S g (wtd n w) = S g ((List.range n).filter p) + S g ((List.range n).filter fun i => decide (0 < w i) && !p i) := fun g => by
    have e := S_split g p (wtd n w)
    unfold wtd at e
    rw [filter_and, filter_and] at e
    unfold wtd
    rw [e]
    congr 1
    congr 1
    refine filter_congr' fun i hi => ?_
    cases hp : p i with
    | false => simp
    | true => rw [decide_eq_true (d.pw i (List.mem_range.mp hi) hp)]; rfl
  have outs : ∀ i ∈ (List.range n).filter fun i => decide (0 < w i) && !p i, ∃ c, cap i = some c ∧ c * b ≤ t * w i := fun i hi => by
    obtain ⟨h1, h2⟩ := List.mem_filter.mp hi
    rw [Bool.and_eq_true] at h2
    obtain ⟨c, e, _, h⟩ := d.out i (List.mem_range.mp h1) (of_decide_eq_true h2.1) (by simpa using h2.2)
    rw [← hW] at h
    exact ⟨c, e, (cmp c i).mp h⟩
  have ins : ∀ i ∈ (List.range n).filter p, ∀ c, cap i = some c → t * w i < c * b := fun i hi c e => by
    have hh := List.filter_eq_nil_iff.mp hfull i hi
    rw [heldB_iff e] at hh
    have h3 : ¬ c * b ≤ t * w i := fun z => hh (decide_eq_true ((cmp c i).mpr z))
    omega
  refine ⟨by rw [putAll_len]; exact d.len, fun i hi h => ?_, (fun h => by cases h), fun t' b' h => ?_⟩
  · have hp : p i = false := by
      cases hp : p i with
      | false => rfl
      | true => have := d.pw i hi hp; omega
    rw [hout i hi hp]
    exact d.yet i hi (.inr h)
  · cases h
    refine ⟨t0, b0, hgcd, fun ⟨h1, h2⟩ => ?_, ?_, fun i hi hw => ?_⟩
    · -- all have caps, and these come to more than the total
      have hlt : S (fun i => t * w i) ((List.range n).filter p) < S (fun i => capN cap i * b) ((List.range n).filter p) := S_lt (fun i hi => by
        obtain ⟨ha, hb⟩ := List.mem_filter.mp hi
        have hs := h1 i (List.mem_range.mp ha) (hpos i hi)
        obtain ⟨c, e⟩ := Option.isSome_iff_exists.mp hs
        have := ins i hi c e
        show t * w i < (cap i).getD 0 * b
        rw [e]; exact this) hne
      rw [S_mul, S_mul_r, ← hW] at hlt
      have e1 : t * W = T * b := by rw [eT, eW, Int.mul_comm b g, ← Int.mul_assoc]
      rw [e1] at hlt
      have hlt2 := Int.lt_of_mul_lt_mul_right hlt (Int.le_of_lt b0)
      rw [hsplit] at h2
      have := d.sum
      omega
    · rw [hsplit]
      have e1 : S (fun i => less (cap i) b (t * w i)) ((List.range n).filter p) = t * W := by
        rw [hW, ← S_mul]
        refine S_congr fun i hi => ?_
        cases e : cap i with
        | none => simp [less]
        | some c =>
          have := ins i hi c e
          simp only [less]
          omega
      have e2 : S (fun i => less (cap i) b (t * w i)) ((List.range n).filter fun i => decide (0 < w i) && !p i) = S (capN cap) ((List.range n).filter fun i => decide (0 < w i) && !p i) * b := by
        rw [← S_mul_r]
        refine S_congr fun i hi => ?_
        obtain ⟨c, e, h⟩ := outs i hi
        unfold capN
        rw [e]
        simp only [less, Option.getD_some]
        omega
      rw [e1, e2]
      have e3 : t * W = T * b := by rw [eT, eW, Int.mul_comm b g, ← Int.mul_assoc]
      rw [e3, ← Int.add_mul, d.sum]
    · cases hp : p i with
      | true =>
        have hr := hrest i hi
        rw [hp] at hr
        unfold restB at hr
        rw [Bool.and_eq_true] at hr
        have hh : heldB t b w cap i = false := by simpa using hr.2
        rw [hin i hi hp, hh, epre i (Nat.le_of_lt hi)]
        rfl
      | false =>
        obtain ⟨c, e, h1, h2⟩ := d.out i hi hw hp
        rw [← hW] at h2
        rw [hout i hi hp, h1, heldB_iff e, decide_eq_true ((cmp c i).mp h2)]
        unfold capN
        rw [e]; rfl
end
/-! #### lists of places, levels as values -/
theorem lcYs_range (n : Nat) (p : Nat → Bool) (ys : Nat → Option V) (h : ∀ i, i < n → ys i = if p i = true then some (.int (i : Int)) else none) : lcYs n ys = natsV ((List.range n).filter p) := by
  have key : ∀ m, m ≤ n → lcYs m ys = natsV ((List.range m).filter p) := by
    intro m
    induction m with
    | zero => intro _; rfl
    | succ m ih =>
      intro hm
      rw [lcYs_succ, ih (by omega), h m (by omega), List.range_succ, List.filter_append]
      unfold natsV
      rw [List.map_append]
      congr 1
      cases hp : p m <;> simp [hp]
  exact key n (Nat.le_refl _)
theorem rep_zero (n : Nat) : (List.replicate n [V.int 0]).flatten = (List.replicate n (0 : Int)).map V.int := by
  induction n with
  | zero => rfl
  | succ n ih => rw [List.replicate_succ, List.flatten_cons, ih, List.replicate_succ, List.map_cons]; rfl
theorem inV_nats (i : Nat) : ∀ l : List Nat, inV (.int (i : Int)) (natsV l) = decide (i ∈ l)
  | [] => by simp [inV]
  | j :: l => by
    have ih := inV_nats i l
    unfold inV at ih ⊢
    simp only [natsV, List.map_cons, List.any_cons] at ih ⊢
    rw [ih]
    have e : eqV (V.int (j : Int)) (V.int (i : Int)) = decide (j = i) := by
      by_cases hj : j = i
      · subst hj; simp [eqV]
      · have : ¬ ((j : Int) = (i : Int)) := by omega
        simp [eqV, hj, this]
    rw [e]
    by_cases hj : j = i
    · subst hj; simp
    · have : ¬ i = j := fun z => hj z.symm
      simp [hj, this]
theorem flat_nats (l : List Nat) : (natsV l).all flatV = true := by
  rw [List.all_eq_true]
  intro x hx
  obtain ⟨i, _, rfl⟩ := List.mem_map.mp hx
  rfl
def natI (l : List Nat) : List Int := l.map fun i : Nat => (i : Int)
theorem natsV_eq (l : List Nat) : (natI l).map V.int = natsV l := by unfold natI; rw [List.map_map]; rfl
theorem natI_nil {l : List Nat} : natI l = [] ↔ l = [] := by unfold natI; exact List.map_eq_nil_iff
theorem nat_of_map {l : List Nat} {i : Nat} {y : V} (h : (natsV l)[i]? = some y) : ∃ c, l[i]? = some c ∧ y = V.int (c : Int) := by
  rw [List.getElem?_map] at h
  cases e : l[i]? with
  | none => rw [e] at h; cases h
  | some c => rw [e] at h; exact ⟨c, rfl, (Option.some.inj h).symm⟩
theorem int_at {ws : List Int} {c : Nat} (h : c < ws.length) : (ws.map V.int)[c]? = some (.int (wAt ws c)) := by
  rw [List.getElem?_map, List.getElem?_eq_getElem h]
  unfold wAt
  rw [List.getD_eq_getElem?_getD, List.getElem?_eq_getElem h]; rfl
def cAt (cs : List (Option Int)) (i : Nat) : Option Int := cs.getD i none
theorem opt_at {cs : List (Option Int)} {c : Nat} (h : c < cs.length) : (cs.map optI)[c]? = some (optI (cAt cs c)) := by
  rw [List.getElem?_map, List.getElem?_eq_getElem h]
  unfold cAt
  rw [List.getD_eq_getElem?_getD, List.getElem?_eq_getElem h]; rfl
theorem wAt_mem {ws : List Int} {i : Nat} (h : i < ws.length) : wAt ws i ∈ ws := by
  unfold wAt
  rw [List.getD_eq_getElem?_getD, List.getElem?_eq_getElem h]
  exact List.getElem_mem h
theorem cAt_mem {cs : List (Option Int)} {i : Nat} {z : Int} (h : cAt cs i = some z) : some z ∈ cs := by
  unfold cAt at h
  rw [List.getD_eq_getElem?_getD] at h
  cases e : cs[i]? with
  | none => rw [e] at h; cases h
  | some c => rw [e] at h; have : c = some z := h; rw [← this]; exact List.mem_of_getElem? e
/-- a level as it stands -/
def LvAt (H : Hp) (lv : Option (Int × Int)) (v : V) : Prop := match lv with
  | none => v = .non
  | some (t, b) => ∃ r, v = .ref r ∧ H r = some (.tup [.int t, .int b])
theorem filter_not_mem {p q : Nat → Bool} {l : List Nat} : ((l.filter p).filter fun i => !decide (i ∈ (l.filter p).filter q)) = l.filter fun i => p i && !q i := by
  rw [filter_and]
  refine List.filter_congr fun i hi => ?_
  cases hp : p i with
  | false => rfl
  | true =>
    have : decide (i ∈ (l.filter p).filter q) = q i := by
      cases hq : q i with
      | true => exact decide_eq_true (List.mem_filter.mpr ⟨List.mem_filter.mpr ⟨hi, hp⟩, hq⟩)
      | false => exact decide_eq_false fun hm => by have := (List.mem_filter.mp hm).2; rw [hq] at this; cases this
    rw [this]
theorem filter_lt {α : Type} {q : α → Bool} {l : List α} {j : α} (h : j ∈ l) (hq : q j = false) : (l.filter q).length < l.length := by
  have h1 := List.length_filter_le q l
  have h2 : (l.filter q).length ≠ l.length := fun e => by
    have := (List.length_filter_eq_length_iff.mp e) j h
    rw [hq] at this; cases this
  omega
theorem putAll_take {ps : List (Nat × Int)} {i : Nat} {q : Nat × Int} (h : ps[i]? = some q) (f : List Int) : putAll f (ps.take (i + 1)) = (putAll f (ps.take i)).set q.1 q.2 := by
  unfold putAll
  rw [List.take_add_one, h]
  show List.foldl _ f (ps.take i ++ [q]) = _
  rw [List.foldl_append]
  rfl
theorem ixN_nat {n i : Nat} (h : i < n) : ixN n (i : Int) = some i := by
  unfold ixN
  rw [if_pos (by omega), if_pos (by omega)]
  simp
theorem map_set {α β : Type} (f : α → β) (l : List α) (i : Nat) (x : α) : (l.map f).set i (f x) = (l.set i x).map f := (List.map_set).symm
end My

/-! ### texts as lists of signs: parts, words, the longest, the wish -/
namespace My
open PySem L2
abbrev sO (l : List Nat) : Str := ⟨l.toArray⟩
theorem sO_tl (x : Str) : sO x.cps.toList = x := by
  cases x
  simp [sO]
/-- cut at each c -/
def cut (c : Nat) : List Nat → List (List Nat)
  | [] => [[]]
  | d :: r => if d = c then [] :: cut c r else match cut c r with
    | p :: ps => (d :: p) :: ps
    | [] => [[d]]
theorem cut_ne (c : Nat) : ∀ l, ∃ p ps, cut c l = p :: ps
  | [] => ⟨[], [], rfl⟩
  | d :: r => by
    obtain ⟨p, ps, e⟩ := cut_ne c r
    unfold cut
    by_cases h : d = c
    · rw [if_pos h]; exact ⟨_, _, rfl⟩
    · rw [if_neg h, e]; exact ⟨_, _, rfl⟩
theorem cut_hit {c : Nat} {r : List Nat} : cut c (c :: r) = [] :: cut c r := by
  conv => lhs; unfold cut
  rw [if_pos rfl]
theorem cut_miss {c d : Nat} {r p : List Nat} {ps : List (List Nat)} (h : d ≠ c) (e : cut c r = p :: ps) : cut c (d :: r) = (d :: p) :: ps := by
  conv => lhs; unfold cut
  rw [if_neg h, e]
theorem cut_len (c : Nat) : ∀ l : List Nat, (cut c l).length ≤ l.length + 1
  | [] => Nat.le_refl _
  | d :: r => by
    have ih := cut_len c r
    obtain ⟨p, ps, e⟩ := cut_ne c r
    by_cases h : d = c
    · subst h
      rw [cut_hit, List.length_cons, List.length_cons]; omega
    · rw [cut_miss h e, List.length_cons]
      rw [e, List.length_cons] at ih
      rw [List.length_cons]; omega
theorem spl_cut (c : Nat) : ∀ (l acc : List Nat), ∀ p ps, cut c l = p :: ps → TL.spl [c] 0 acc l = (acc ++ p) :: ps
  | [], acc, p, ps, e => by
    cases e
    rw [TL.spl_nil, List.append_nil]
  | d :: r, acc, p, ps, e => by
    obtain ⟨p', ps', e'⟩ := cut_ne c r
    by_cases h : d = c
    · subst h
      rw [cut_hit] at e
      cases e
      rw [TL.spl_hit (by simp [TL.pre]), List.append_nil]
      show acc :: TL.spl [d] 0 [] r = _
      rw [spl_cut d r [] p' ps' e', e', List.nil_append]
    · rw [cut_miss h e'] at e
      cases e
      rw [TL.spl_miss (by simp [TL.pre, h]), spl_cut c r _ p' ps e', List.append_assoc]; rfl
theorem split_cut {c : Nat} (hc : c < 256) (l : List Nat) : Txt.split (sO l) ⟨#[c]⟩ = (cut c l).map sO := by
  have := SX.split_S (a := l) (b := [c]) (by simp) (by simp [hc])
  obtain ⟨p, ps, e⟩ := cut_ne c l
  rw [spl_cut c l [] p ps e, List.nil_append, ← e] at this
  exact this
theorem join_sO (a : List Nat) (ys : List (List Nat)) : Txt.join (sO a) (ys.map sO) = sO (TL.joinL a ys) := SX.join_S a ys
theorem cut_append (c : Nat) (b : List Nat) : ∀ a : List Nat, cut c (a ++ c :: b) = cut c a ++ cut c b
  | [] => by rw [List.nil_append, cut_hit]; rfl
  | d :: r => by
    have ih := cut_append c b r
    obtain ⟨p, ps, e⟩ := cut_ne c r
    by_cases h : d = c
    · subst h
      rw [List.cons_append, cut_hit, cut_hit, ih]; rfl
    · rw [List.cons_append, cut_miss h e, cut_miss h (p := p) (ps := ps ++ cut c b) (by rw [ih, e]; rfl)]; rfl
/-- the words of a part -/
def wordsL (l : List Nat) : List (List Nat) := (cut 32 l).filter (!·.isEmpty)
def maxN : List Nat → Nat
  | [] => 0
  | a :: l => max a (maxN l)
theorem maxN_append : ∀ a b : List Nat, maxN (a ++ b) = max (maxN a) (maxN b)
  | [], b => by simp [maxN]
  | x :: a, b => by
    show max x (maxN (a ++ b)) = max (max x (maxN a)) (maxN b)
    rw [maxN_append a b]; omega
theorem foldl_maxN : ∀ (l : List Nat) (n : Nat), (l.map Int.ofNat).foldl max (n : Int) = ((max n (maxN l) : Nat) : Int)
  | [], n => by simp [maxN]
  | a :: l, n => by
    show (l.map Int.ofNat).foldl max (max (n : Int) (a : Int)) = _
    rw [show max (n : Int) (a : Int) = ((max n a : Nat) : Int) by omega, foldl_maxN l]
    show _ = ((max n (max a (maxN l)) : Nat) : Int)
    omega
/-! the longest -/
def longL (x : List Nat) : Nat := maxN (((cut 10 x).flatMap wordsL).map List.length)
/-- sign by sign: the run, the most -/
def lgM : Nat → Nat → List Nat → Nat
  | _, m, [] => m
  | r, m, c :: t => let r' := if c = 32 ∨ c = 10 then 0 else r + 1
    lgM r' (max m r') t
theorem lgM_max : ∀ (t : List Nat) (r m : Nat), lgM r m t = max m (lgM r 0 t)
  | [], r, m => by simp [lgM]
  | c :: t, r, m => by
    show lgM _ (max m _) t = max m (lgM _ (max 0 _) t)
    rw [lgM_max t _ (max m _), lgM_max t _ (max 0 _)]; omega
/-- the longest of a part's words, its first word begun with r signs -/
def lgP (r : Nat) (x : List Nat) : Nat := match cut 32 x with
  | [] => 0
  | h :: ts => max (r + h.length) (maxN (ts.map List.length))
theorem maxN_filter : ∀ l : List (List Nat), maxN ((l.filter (!·.isEmpty)).map List.length) = maxN (l.map List.length)
  | [] => rfl
  | [] :: l => by
    show maxN ((l.filter _).map _) = max 0 (maxN (l.map List.length))
    rw [maxN_filter l]; omega
  | (a :: p) :: l => by
    show max _ (maxN ((l.filter _).map _)) = max _ _
    rw [maxN_filter l]
theorem lgP_words (x : List Nat) : lgP 0 x = maxN ((wordsL x).map List.length) := by
  unfold wordsL
  rw [maxN_filter]
  unfold lgP
  obtain ⟨p, ps, e⟩ := cut_ne 32 x
  rw [e]
  show max (0 + p.length) _ = max p.length _
  rw [Nat.zero_add]
theorem lgP_nil (r : Nat) : lgP r [] = r := by
  show max (r + 0) 0 = r
  omega
theorem lgP_blank (r : Nat) (t : List Nat) : lgP r (32 :: t) = max r (lgP 0 t) := by
  unfold lgP
  obtain ⟨p, ps, e⟩ := cut_ne 32 t
  rw [cut_hit, e]
  show max (r + 0) (max p.length _) = max r (max (0 + p.length) _)
  rw [Nat.zero_add, Nat.add_zero]
theorem lgP_sign {r c : Nat} {t : List Nat} (h : c ≠ 32) : lgP r (c :: t) = lgP (r + 1) t := by
  unfold lgP
  obtain ⟨p, ps, e⟩ := cut_ne 32 t
  rw [cut_miss h e, e]
  show max (r + (p.length + 1)) _ = max (r + 1 + p.length) _
  rw [show r + (p.length + 1) = r + 1 + p.length by omega]
theorem lgP_ge (r : Nat) (t : List Nat) : r ≤ lgP r t := by
  unfold lgP
  obtain ⟨p, ps, e⟩ := cut_ne 32 t
  rw [e]
  show r ≤ max (r + p.length) _
  omega
theorem lgM_cut : ∀ (x : List Nat) (r m : Nat), r ≤ m → ∀ p ps, cut 10 x = p :: ps → lgM r m x = max m (max (lgP r p) (maxN (ps.map (lgP 0))))
  | [], r, m, hr, p, ps, e => by
    cases e
    rw [lgP_nil]
    show m = max m (max r 0)
    omega
  | c :: t, r, m, hr, p, ps, e => by
    obtain ⟨p', ps', e'⟩ := cut_ne 10 t
    by_cases h : c = 10
    · subst h
      rw [cut_hit, e'] at e
      cases e
      show lgM 0 (max m 0) t = _
      rw [lgM_cut t 0 (max m 0) (Nat.zero_le _) p' ps' e', lgP_nil]
      show max (max m 0) (max (lgP 0 p') _) = max m (max r (max (lgP 0 p') _))
      omega
    · rw [cut_miss h e'] at e
      cases e
      by_cases hb : c = 32
      · subst hb
        show lgM 0 (max m 0) t = _
        rw [lgM_cut t 0 (max m 0) (Nat.zero_le _) p' ps e', lgP_blank]
        omega
      · show lgM (if c = 32 ∨ c = 10 then 0 else r + 1) (max m (if c = 32 ∨ c = 10 then 0 else r + 1)) t = _
        rw [if_neg (by simp [h, hb]), lgM_cut t (r + 1) (max m (r + 1)) (by omega) p' ps e', lgP_sign hb]
        have := lgP_ge (r + 1) p'
        omega
theorem maxN_flat : ∀ l : List (List Nat), maxN ((l.flatMap wordsL).map List.length) = maxN (l.map (lgP 0))
  | [] => rfl
  | x :: l => by
    rw [List.flatMap_cons, List.map_append, maxN_append, maxN_flat l, ← lgP_words]; rfl
theorem long_M (x : List Nat) : longL x = lgM 0 0 x := by
  unfold longL
  obtain ⟨p, ps, e⟩ := cut_ne 10 x
  rw [lgM_cut x 0 0 (Nat.le_refl _) p ps e, maxN_flat, e]
  show max (lgP 0 p) _ = max 0 (max (lgP 0 p) _)
  omega
/-! the wish -/
def joined (l : List Nat) : List Nat := TL.joinL [32] (wordsL l)
def wishL (x : List Nat) : Nat := maxN ((cut 10 x).map fun p => (joined p).length)
def worth (l w : Nat) : Nat := l + (w - 1)
/-- sign by sign: the letters, the words, whether a word's end is ahead, the most -/
def wsM : Nat → Nat → Bool → Nat → List Nat → Nat
  | _, _, _, m, [] => m
  | l, w, b, m, c :: t => if c = 10 then wsM 0 0 true (max m 0) t
    else if c = 32 then wsM l w true (max m (worth l w)) t
    else wsM (l + 1) (w + (if b then 1 else 0)) false (max m (worth (l + 1) (w + (if b then 1 else 0)))) t
def begs : Bool → List Nat → Nat
  | _, [] => 0
  | b, c :: t => if c = 32 then begs true t else (if b then 1 else 0) + begs false t
def lets (l : List Nat) : Nat := (l.filter (· ≠ 32)).length
theorem begs_cut : ∀ (t : List Nat) (p : List Nat) (ps : List (List Nat)), cut 32 t = p :: ps → begs false t = (ps.filter (!·.isEmpty)).length ∧ begs true t = ((p :: ps).filter (!·.isEmpty)).length
  | [], p, ps, e => by cases e; exact ⟨rfl, rfl⟩
  | c :: t, p, ps, e => by
    obtain ⟨p', ps', e'⟩ := cut_ne 32 t
    have ih := begs_cut t p' ps' e'
    by_cases h : c = 32
    · subst h
      rw [cut_hit, e'] at e
      cases e
      exact ⟨ih.2, ih.2⟩
    · rw [cut_miss h e'] at e
      cases e
      refine ⟨?_, ?_⟩
      · show (if c = 32 then begs true t else 0 + begs false t) = _
        rw [if_neg h, ih.1]; omega
      · show (if c = 32 then begs true t else 1 + begs false t) = _
        rw [if_neg h, ih.1]
        show 1 + _ = (List.filter _ ((c :: p') :: ps)).length
        rw [List.filter_cons_of_pos (by rfl), List.length_cons]; omega
theorem lets_cut : ∀ (t : List Nat), ((cut 32 t).map List.length).sum = lets t
  | [] => rfl
  | c :: t => by
    have ih := lets_cut t
    obtain ⟨p, ps, e⟩ := cut_ne 32 t
    by_cases h : c = 32
    · subst h
      rw [cut_hit, List.map_cons, List.sum_cons, ih]
      show 0 + lets t = lets (32 :: t)
      unfold lets
      rw [List.filter_cons_of_neg (by simp)]; omega
    · rw [cut_miss h e]
      rw [e] at ih
      show (p.length + 1) + (ps.map List.length).sum = _
      have ih : p.length + (ps.map List.length).sum = lets t := ih
      unfold lets
      rw [List.filter_cons_of_pos (by simp [h]), List.length_cons]
      unfold lets at ih
      omega
theorem sum_filter : ∀ l : List (List Nat), ((l.filter (!·.isEmpty)).map List.length).sum = (l.map List.length).sum
  | [] => rfl
  | [] :: l => by
    show ((l.filter _).map _).sum = 0 + (l.map List.length).sum
    rw [sum_filter l]; omega
  | (a :: p) :: l => by
    rw [List.filter_cons_of_pos (by rfl), List.map_cons, List.map_cons, List.sum_cons, List.sum_cons, sum_filter l]
theorem joinL_len (s : Nat) : ∀ l : List (List Nat), (TL.joinL [s] l).length = (l.map List.length).sum + (l.length - 1)
  | [] => rfl
  | [p] => by show p.length = (p.length + 0) + 0; omega
  | p :: q :: r => by
    have ih := joinL_len s (q :: r)
    show (p ++ ([s] ++ TL.joinL [s] (q :: r))).length = (p.length + ((q :: r).map List.length).sum) + ((q :: r).length + 1 - 1)
    rw [List.length_append, List.length_append, ih]
    show p.length + (1 + _) = _
    have : (q :: r).length = r.length + 1 := rfl
    omega
theorem joined_len (p : List Nat) : (joined p).length = worth (lets p) (begs true p) := by
  obtain ⟨h, ts, e⟩ := cut_ne 32 p
  unfold joined
  rw [joinL_len]
  unfold wordsL
  rw [sum_filter, lets_cut, (begs_cut p h ts e).2, e]; rfl
/-- a part's worth, from letters, words and what is ahead -/
def wsP (l w : Nat) (b : Bool) (p : List Nat) : Nat := worth (l + lets p) (w + begs b p)
theorem worth_mono {l l' w w' : Nat} (h1 : l ≤ l') (h2 : w ≤ w') : worth l w ≤ worth l' w' := by unfold worth; omega
theorem wsM_cut : ∀ (x : List Nat) (l w : Nat) (b : Bool) (m : Nat), worth l w ≤ m → ∀ p ps, cut 10 x = p :: ps → wsM l w b m x = max m (max (wsP l w b p) (maxN (ps.map fun p => wsP 0 0 true p)))
  | [], l, w, b, m, hm, p, ps, e => by
    cases e
    show m = max m (max (worth (l + 0) (w + 0)) 0)
    rw [Nat.add_zero, Nat.add_zero]; omega
  | c :: t, l, w, b, m, hm, p, ps, e => by
    obtain ⟨p', ps', e'⟩ := cut_ne 10 t
    by_cases h : c = 10
    · subst h
      rw [cut_hit, e'] at e
      cases e
      show wsM 0 0 true (max m 0) t = _
      rw [wsM_cut t 0 0 true (max m 0) (by unfold worth; omega) p' ps' e']
      show max (max m 0) (max (wsP 0 0 true p') _) = max m (max (worth (l + 0) (w + 0)) (max (wsP 0 0 true p') _))
      rw [Nat.add_zero, Nat.add_zero]; omega
    · rw [cut_miss h e'] at e
      cases e
      by_cases hb : c = 32
      · subst hb
        show wsM l w true (max m (worth l w)) t = _
        rw [wsM_cut t l w true _ (by omega) p' ps e']
        have e1 : wsP l w b (32 :: p') = wsP l w true p' := by
          unfold wsP lets
          rw [List.filter_cons_of_neg (by simp)]
          rfl
        rw [e1]; omega
      · show (if c = 10 then wsM 0 0 true (max m 0) t else if c = 32 then wsM l w true (max m (worth l w)) t else wsM (l + 1) (w + (if b then 1 else 0)) false (max m (worth (l + 1) (w + (if b then 1 else 0)))) t) = _
        rw [if_neg h, if_neg hb, wsM_cut t (l + 1) _ false _ (by omega) p' ps e']
        have e1 : wsP l w b (c :: p') = wsP (l + 1) (w + (if b then 1 else 0)) false p' := by
          unfold wsP lets
          rw [List.filter_cons_of_pos (by simp [hb]), List.length_cons]
          show worth _ (w + (if c = 32 then begs true p' else (if b then 1 else 0) + begs false p')) = _
          rw [if_neg hb, show l + ((p'.filter (· ≠ 32)).length + 1) = l + 1 + (p'.filter (· ≠ 32)).length by omega, Nat.add_assoc w]
        have e2 : worth (l + 1) (w + (if b then 1 else 0)) ≤ wsP (l + 1) (w + (if b then 1 else 0)) false p' := worth_mono (by omega) (by omega)
        rw [e1]; omega
theorem wish_M (x : List Nat) : wishL x = wsM 0 0 true 0 x := by
  obtain ⟨p, ps, e⟩ := cut_ne 10 x
  rw [wsM_cut x 0 0 true 0 (by unfold worth; omega) p ps e]
  have e1 : ∀ q, (joined q).length = wsP 0 0 true q := fun q => by
    rw [joined_len]; unfold wsP; rw [Nat.zero_add, Nat.zero_add]
  unfold wishL
  rw [e]
  show max (joined p).length (maxN (ps.map fun p => (joined p).length)) = _
  rw [e1 p, show (fun p => (joined p).length) = (fun p => wsP 0 0 true p) from funext e1]; omega
theorem long_append (a b : List Nat) : longL (a ++ 10 :: b) = max (longL a) (longL b) := by
  unfold longL
  rw [cut_append, List.flatMap_append, List.map_append, maxN_append]
theorem wish_append (a b : List Nat) : wishL (a ++ 10 :: b) = max (wishL a) (wishL b) := by
  unfold wishL
  rw [cut_append, List.map_append, maxN_append]
/-! more blanks -/
def rep2 : List Nat → List Nat
  | [] => []
  | c :: t => if c = 32 then 32 :: 32 :: rep2 t else c :: rep2 t
theorem rep2_cut : ∀ x : List Nat, TL.joinL [32, 32] (cut 32 x) = rep2 x
  | [] => rfl
  | c :: t => by
    have ih := rep2_cut t
    obtain ⟨p, ps, e⟩ := cut_ne 32 t
    by_cases h : c = 32
    · subst h
      rw [cut_hit]
      rw [e] at ih ⊢
      show [] ++ ([32, 32] ++ TL.joinL [32, 32] (p :: ps)) = 32 :: 32 :: rep2 t
      rw [ih]; rfl
    · rw [cut_miss h e]
      rw [e] at ih
      have e2 : rep2 (c :: t) = c :: rep2 t := by
        show (if c = 32 then _ else _) = _
        rw [if_neg h]
      rw [e2, ← ih]
      cases ps <;> rfl
theorem rep2_len : ∀ x : List Nat, (rep2 x).length ≤ 2 * x.length
  | [] => Nat.le_refl _
  | c :: t => by
    have ih := rep2_len t
    show (if c = 32 then 32 :: 32 :: rep2 t else c :: rep2 t).length ≤ 2 * (t.length + 1)
    split
    · rw [List.length_cons, List.length_cons]; omega
    · rw [List.length_cons]; omega
theorem lgM_rep : ∀ (x : List Nat) (r m : Nat), lgM r m (rep2 x ++ [32, 32]) = lgM r m x
  | [], r, m => by
    show max (max m 0) 0 = m
    omega
  | c :: t, r, m => by
    by_cases h : c = 32
    · subst h
      show lgM 0 (max (max m 0) 0) (rep2 t ++ [32, 32]) = lgM 0 (max m 0) t
      rw [show max (max m 0) 0 = max m 0 by omega]
      exact lgM_rep t 0 _
    · show lgM r m ((if c = 32 then 32 :: 32 :: rep2 t else c :: rep2 t) ++ [32, 32]) = _
      rw [if_neg h]
      exact lgM_rep t _ _
theorem wsM_rep : ∀ (x : List Nat) (l w : Nat) (b : Bool) (m : Nat), worth l w ≤ m → wsM l w b m (rep2 x ++ [32, 32]) = wsM l w b m x
  | [], l, w, b, m, hm => by
    show max (max m (worth l w)) (worth l w) = m
    omega
  | c :: t, l, w, b, m, hm => by
    by_cases h : c = 32
    · subst h
      show wsM l w true (max (max m (worth l w)) (worth l w)) (rep2 t ++ [32, 32]) = wsM l w true (max m (worth l w)) t
      rw [show max (max m (worth l w)) (worth l w) = max m (worth l w) by omega]
      exact wsM_rep t l w true _ (by omega)
    · show wsM l w b m ((if c = 32 then 32 :: 32 :: rep2 t else c :: rep2 t) ++ [32, 32]) = _
      rw [if_neg h]
      show (if c = 10 then wsM 0 0 true (max m 0) (rep2 t ++ [32, 32]) else if c = 32 then wsM l w true (max m (worth l w)) (rep2 t ++ [32, 32]) else wsM (l + 1) (w + (if b then 1 else 0)) false (max m (worth (l + 1) (w + (if b then 1 else 0)))) (rep2 t ++ [32, 32])) = (if c = 10 then wsM 0 0 true (max m 0) t else if c = 32 then wsM l w true (max m (worth l w)) t else wsM (l + 1) (w + (if b then 1 else 0)) false (max m (worth (l + 1) (w + (if b then 1 else 0)))) t)
      by_cases h10 : c = 10
      · rw [if_pos h10, if_pos h10]
        exact wsM_rep t 0 0 true _ (by unfold worth; omega)
      · rw [if_neg h10, if_neg h10, if_neg h, if_neg h]
        exact wsM_rep t _ _ false _ (by omega)
def wideL (x : List Nat) : List Nat := 32 :: (rep2 x ++ [32, 32])
theorem long_wide (x : List Nat) : longL (wideL x) = longL x := by
  rw [long_M, long_M]
  exact lgM_rep x 0 0
theorem wish_wide (x : List Nat) : wishL (wideL x) = wishL x := by
  rw [wish_M, wish_M]
  exact wsM_rep x 0 0 true 0 (by unfold worth; omega)
theorem replace_rep (x : List Nat) : Txt.replace (sO x) " " "  " = sO (rep2 x) := by
  have h := StrLaws.replace_one (sO x) "  " 32
  have e1 : (⟨#[32]⟩ : Str) = " " := by decide +kernel
  have e2 : ("  " : Str) = sO [32, 32] := by decide +kernel
  rw [split_cut (by decide), e2, ← TL.join_eq, join_sO, rep2_cut] at h
  rw [← e1, e2]
  exact h
theorem max_cast (a b : Nat) : (if (a : Int) > (b : Int) then (a : Int) else (b : Int)) = ((max b a : Nat) : Int) := by
  split <;> omega
theorem worth_cast (le wo : Nat) : ((le : Int) + if (wo : Int) - 1 > 0 then (wo : Int) - 1 else 0) = ((worth le wo : Nat) : Int) := by
  unfold worth
  split <;> omega
theorem lgM_end {r m c : Nat} {t : List Nat} (e : c = 32 ∨ c = 10) : lgM r m (c :: t) = lgM 0 (max m 0) t := by
  show lgM (if c = 32 ∨ c = 10 then 0 else r + 1) (max m (if c = 32 ∨ c = 10 then 0 else r + 1)) t = _
  rw [if_pos e]
theorem lgM_run {r m c : Nat} {t : List Nat} (e : ¬ (c = 32 ∨ c = 10)) : lgM r m (c :: t) = lgM (r + 1) (max m (r + 1)) t := by
  show lgM (if c = 32 ∨ c = 10 then 0 else r + 1) (max m (if c = 32 ∨ c = 10 then 0 else r + 1)) t = _
  rw [if_neg e]
theorem wsM_feed {l w m c : Nat} {b : Bool} {t : List Nat} (e : c = 10) : wsM l w b m (c :: t) = wsM 0 0 true (max m (worth 0 0)) t := by subst e; rfl
theorem wsM_blank {l w m c : Nat} {b : Bool} {t : List Nat} (e : ¬ c = 10) (e2 : c = 32) : wsM l w b m (c :: t) = wsM l w true (max m (worth l w)) t := by subst e2; rfl
theorem wsM_sign {l w m c : Nat} {b : Bool} {t : List Nat} (e : ¬ c = 10) (e2 : ¬ c = 32) : wsM l w b m (c :: t) = wsM (l + 1) (w + (if b then 1 else 0)) false (max m (worth (l + 1) (w + (if b then 1 else 0)))) t := by
  show (if c = 10 then _ else if c = 32 then _ else _) = _
  rw [if_neg e, if_neg e2]
theorem cut_sum (c : Nat) : ∀ l : List Nat, ((cut c l).map List.length).sum ≤ l.length
  | [] => Nat.le_refl _
  | d :: r => by
    have ih := cut_sum c r
    obtain ⟨p, ps, e⟩ := cut_ne c r
    by_cases h : d = c
    · subst h
      rw [cut_hit, List.map_cons, List.sum_cons, List.length_cons]
      show 0 + _ ≤ _
      omega
    · rw [cut_miss h e, List.map_cons, List.sum_cons, List.length_cons, List.length_cons]
      rw [e, List.map_cons, List.sum_cons] at ih
      omega
theorem mem_sum {l : List (List Nat)} {p : List Nat} (h : p ∈ l) : p.length ≤ (l.map List.length).sum := by
  induction l with
  | nil => cases h
  | cons a l ih =>
    rw [List.map_cons, List.sum_cons]
    rcases List.mem_cons.mp h with rfl | h
    · omega
    · have := ih h; omega
theorem words_sum (p : List Nat) : ((wordsL p).map List.length).sum ≤ p.length := by
  unfold wordsL
  rw [sum_filter]
  exact cut_sum 32 p
theorem words_pos {p w : List Nat} (h : w ∈ wordsL p) : 0 < w.length := by
  have := (List.mem_filter.mp h).2
  cases w with
  | nil => cases this
  | cons a w => exact Nat.succ_pos _
theorem count_sum : ∀ {l : List (List Nat)}, (∀ w ∈ l, 0 < w.length) → l.length ≤ (l.map List.length).sum
  | [], _ => Nat.le_refl _
  | w :: l, h => by
    have h1 := h w (List.mem_cons_self ..)
    have h2 := count_sum fun y hy => h y (List.mem_cons_of_mem _ hy)
    rw [List.map_cons, List.sum_cons, List.length_cons]; omega
theorem words_count (p : List Nat) : (wordsL p).length ≤ p.length := Nat.le_trans (count_sum fun _ h => words_pos h) (words_sum p)
theorem flat_count : ∀ l : List (List Nat), (l.flatMap wordsL).length ≤ (l.map List.length).sum
  | [] => Nat.le_refl _
  | p :: l => by
    rw [List.flatMap_cons, List.length_append, List.map_cons, List.sum_cons]
    have h1 := words_count p
    have h2 := flat_count l
    omega
theorem part_len {c : Nat} {l p : List Nat} (h : p ∈ cut c l) : p.length ≤ l.length := Nat.le_trans (mem_sum h) (cut_sum c l)
theorem flat_take (f : List Nat → List (List Nat)) (l : List (List Nat)) (i : Nat) : ((l.take i).flatMap f).length ≤ (l.flatMap f).length := by
  conv => rhs; rw [← List.take_append_drop i l]
  rw [List.flatMap_append, List.length_append]; omega
theorem maxN_ge : ∀ {l : List Nat} {k : Nat}, k ∈ l → k ≤ maxN l
  | a :: l, k, h => by
    show k ≤ max a (maxN l)
    rcases List.mem_cons.mp h with rfl | h
    · omega
    · have := maxN_ge h; omega
theorem maxN_le : ∀ {l : List Nat} {m : Nat}, (∀ k ∈ l, k ≤ m) → maxN l ≤ m
  | [], m, _ => Nat.zero_le _
  | a :: l, m, h => by
    show max a (maxN l) ≤ m
    have h1 := h a (List.mem_cons_self ..)
    have h2 := maxN_le fun k hk => h k (List.mem_cons_of_mem _ hk)
    omega
theorem maxN_of {l : List Nat} {m : Int} (h : m ∈ l.map Int.ofNat) (g : ∀ y ∈ l.map Int.ofNat, y ≤ m) : m = ((maxN l : Nat) : Int) := by
  obtain ⟨k, hk, rfl⟩ := List.mem_map.mp h
  have h1 := maxN_ge hk
  have h2 : maxN l ≤ k := maxN_le fun j hj => by
    have := g _ (List.mem_map.mpr ⟨j, hj, rfl⟩)
    exact Int.ofNat_le.mp this
  show ((k : Nat) : Int) = _
  omega
/-! the signs of words -/
def alphL : List Nat := (Str.ofString "!\"#$&'()*+,-./0123456789:;<=>?@ABCDEFGHIJKLMNOPQRSTUVWXYZ[\\]^_`abcdefghijklmnopqrstuvwxyz{}~").cps.toList
theorem alph_len : alphL.length = 92 := by decide +kernel
theorem alph_ok : ∀ c ∈ alphL, 33 ≤ c ∧ c < 127 := by decide +kernel
def signL (f s : Int) (k : Nat) : Nat := alphL.getD ((f + s * (k : Int)) % 92).toNat 33
theorem signL_at (f s : Int) (k : Nat) : atI alphL ((f + s * (k : Int)) % 92) = some (signL f s k) := by
  have h0 := Int.emod_nonneg (f + s * (k : Int)) (b := 92) (by decide)
  have h1 := Int.emod_lt_of_pos (f + s * (k : Int)) (b := 92) (by decide)
  unfold signL
  generalize (f + s * (k : Int)) % 92 = i at h0 h1
  obtain ⟨j, rfl⟩ := Int.eq_ofNat_of_zero_le h0
  have hj : j < alphL.length := by rw [alph_len]; omega
  unfold atI
  rw [ixN_nat hj, Int.toNat_natCast, List.getD_eq_getElem?_getD, List.getElem?_eq_getElem hj]
  exact List.getElem?_eq_getElem hj
theorem signL_ok (f s : Int) (k : Nat) : 33 ≤ signL f s k ∧ signL f s k < 127 := by
  have h := signL_at f s k
  unfold atI at h
  obtain ⟨j, _, hj⟩ := Option.bind_eq_some_iff.mp h
  exact alph_ok _ (List.mem_of_getElem? hj)
theorem joinL_signs : ∀ l : List Nat, TL.joinL [] (l.map fun c => [c]) = l
  | [] => rfl
  | [c] => rfl
  | c :: d :: l => by
    show [c] ++ ([] ++ TL.joinL [] ((d :: l).map fun c => [c])) = _
    rw [joinL_signs (d :: l)]; rfl
end My

/-! ### rules for texts -/
namespace My
open PySem PySem.Spec PyProof.Rows L2
section
variable {X : Cx}
/-- c * n -/
def rRepS : R2 := fun x y H Q => ∃ (c : Nat) (n : Nat), x = .str ⟨#[c]⟩ ∧ y = .int (n : Int) ∧ 1 ≤ n ∧ n ≤ 1000 ∧ Q (.str (sO (List.replicate n c))) H
theorem fold_rep (c : Nat) : ∀ (n : Nat) (acc : Array Nat), ((List.replicate n #[c]).foldl (· ++ ·) acc) = (acc.toList ++ List.replicate n c).toArray
  | 0, acc => by simp
  | n + 1, acc => by
    rw [List.replicate_succ, List.foldl_cons, fold_rep c n]
    simp [List.replicate_succ]
theorem op_repS : OpR X (binaryOp .Mult) rRepS := by
  intro pins s σ H x y v u Q I rx ry h
  obtain ⟨c, n, rfl, rfl, n1, n2, q⟩ := h
  obtain ⟨t, rfl⟩ := rx
  obtain ⟨t', rfl⟩ := ry
  refine P.mul_str ?_ (fun _ _ => ?_) (fun _ _ => ?_) ?_
  · rw [decide_eq_false (by omega), decide_eq_false (by omega)]; rfl
  · show ¬ (((#[c] : Array Nat).size : Int) > _)
    have h1 : (n : Int) ≤ 1000 := by omega
    have h2 : 1 ≤ (2 ^ 63 - 1 : Int) / (n : Int) := by
      apply Int.le_ediv_of_mul_le (by omega)
      omega
    show ¬ ((1 : Nat) : Int) > _
    omega
  · show PySem.Builtin.Str.tooLong (1 * (n : Int).toNat) = false
    unfold PySem.Builtin.Str.tooLong
    exact decide_eq_false (by rw [sizeLine_eq]; simp; omega)
  · rw [if_neg (by omega)]
    have e : (⟨(List.replicate (n : Int).toNat (⟨#[c]⟩ : Str).cps).foldl (· ++ ·) #[]⟩ : Str) = sO (List.replicate n c) := by
      rw [Int.toNat_natCast]
      show (⟨(List.replicate n #[c]).foldl (· ++ ·) #[]⟩ : Str) = _
      rw [fold_rep]; simp [sO]
    split
    · rename_i h
      have hn : n = 1 := by
        have : ((⟨#[c]⟩ : Str).length == 0) = false := rfl
        rw [this, Bool.or_false] at h
        have := eq_of_beq h
        omega
      subst hn
      exact ⟨.str (sO [c]), H, I, ⟨t, rfl⟩, q⟩
    · rw [e]
      refine ⟨?_, .str _, H, I.tok _, ⟨_, rfl⟩, q⟩
      show (List.replicate n c).toArray.size ≤ sizeLine
      rw [List.size_toArray, List.length_replicate, sizeLine_eq]; omega
/-- x.split(c): a new list of the parts -/
theorem mt_splitN : MtR X "str.split" (fun x xs H Q => ∃ (l : List Nat) (c : Nat), x = .str (sO l) ∧ xs = [.str ⟨#[c]⟩] ∧ c < 256 ∧ l.length + 2 ≤ sizeLine ∧ New H (.lst ((cut c l).map fun p => .str (sO p))) Q) := by
  intro pins s σ H x xs v us Q I rx rs h
  obtain ⟨l, c, rfl, rfl, hc, hl, q⟩ := h
  refine mt_split pins s σ H _ _ v us Q I rx rs ⟨sO l, ⟨#[c]⟩, rfl, rfl, rfl, hl, fun p hp => ?_⟩
  rw [split_cut hc, List.map_map]
  exact q.go p hp
theorem pe_splitN {o e : Expr} {to te : TE} {apos pos : Pos} (ho : PE X o to) (he : PE X e te) (hs : starEach [e] X.env = [(false, eval e X.env)] := by rfl) (hbase : attributeBase o "split" X.env (eval o X.env) = eval o X.env := by rfl) (hline : (apos.endLine == pos.line) = true := by rfl) :
    PE X (.Call (.Attribute o "split" apos) [e] [] pos) (tM1 (fun x xs H Q => ∃ (l : List Nat) (c : Nat), x = .str (sO l) ∧ xs = [.str ⟨#[c]⟩] ∧ c < 256 ∧ l.length + 2 ≤ sizeLine ∧ New H (.lst ((cut c l).map fun p => .str (sO p))) Q) to te) :=
  pe_m1 PySem.F.slot_str_split PySem.F.type_str_split mt_splitN ho he hs hbase hline
/-- sep.join(list of texts) -/
theorem mt_joinN {K : PySem.W.Frag} (hK : X.K = K) : MtR X "str.join" (fun x xs H Q => ∃ (a : List Nat) (p : Addr) (ys : List (List Nat)), x = .str (sO a) ∧ xs = [.ref p] ∧ SqL K H p (ys.map fun y => V.str (sO y)) ∧ (ys.map List.length).sum + ys.length * a.length ≤ 16777216 ∧ Q (.str (sO (TL.joinL a ys))) H) := by
  intro pins s σ H x xs v us Q I rx rs h
  obtain ⟨a, p, ys, rfl, rfl, hp, hz, q⟩ := h
  subst hK
  refine mt_join pins s σ H _ _ v us Q I rx rs ⟨sO a, p, ys.map sO, rfl, rfl, .inl (by rw [List.map_map]; exact hp), ?_, ?_⟩
  · rw [List.map_map, List.length_map]; exact hz
  · rw [join_sO]; exact q
theorem pe_joinN {K : PySem.W.Frag} (hK : X.K = K) {o e : Expr} {to te : TE} {apos pos : Pos} (ho : PE X o to) (he : PE X e te) (hs : starEach [e] X.env = [(false, eval e X.env)] := by rfl) (hbase : attributeBase o "join" X.env (eval o X.env) = eval o X.env := by rfl) (hline : (apos.endLine == pos.line) = true := by rfl) :
    PE X (.Call (.Attribute o "join" apos) [e] [] pos) (tM1 (fun x xs H Q => ∃ (a : List Nat) (p : Addr) (ys : List (List Nat)), x = .str (sO a) ∧ xs = [.ref p] ∧ SqL K H p (ys.map fun y => V.str (sO y)) ∧ (ys.map List.length).sum + ys.length * a.length ≤ 16777216 ∧ Q (.str (sO (TL.joinL a ys))) H) to te) :=
  pe_m1 PySem.F.slot_str_join PySem.F.type_str_join (mt_joinN hK) ho he hs hbase hline
/-- 'c' op e where e wants a token -/
theorem pe_opT {op : Operator} {r : R2} {c : Str} {j : Nat} {p pos : Pos} {f : Expr} {tf : TE} (ho : OpR X (binaryOp op) r) (hb : PET X f tf) : PE X (.BinOp (.Constant (.str c) j p) op f pos) (tOp r (tC (.str c)) tf) := by
  refine ⟨fun pins s σ H Q I h => ?_⟩
  refine wpAny_BinOp (PySem.Calls.Constant_str ?_)
  exact thn (hb pins _ σ H _ (Nat.succ_le_succ (Nat.zero_le _)) (I.tok _) h) fun u s2 ⟨y, H2, I2, r2, q2⟩ => ho pins s2 σ H2 (.str c) y _ u Q I2 ⟨_, rfl⟩ r2 q2
end
/-! #### walks -/
theorem it_list {K : PySem.W.Frag} {a : Addr} {xs : List V} {Qd : Hp → Prop} {Body : (Hp → Prop) → V → Hp → Prop} {H0 : Hp} (Pv : Nat → Hp → Prop) (h0 : Pv 0 H0) (hl : ∀ i H, i ≤ xs.length → Pv i H → SqL K H a xs)
    (hs : ∀ i x H, xs[i]? = some x → Pv i H → Body (Pv (i + 1)) x H) (hd : ∀ H, Pv xs.length H → Qd H) :
    ∃ W : Nat → Nat → Hp → Prop, (∃ m, W 0 m H0) ∧ ∀ i m H, W i m H →
      ((Itl K a).stop i H ∧ Qd H) ∨ ((Itl K a).go i H ∧ ∃ Nx : Hp → Prop, (∀ H', Nx H' → ∃ m', m' < m ∧ W (i + 1) m' H') ∧ ∀ x H', (Itl K a).yld i H x H' → Body Nx x H') := by
  refine ⟨fun i m H => m = xs.length - i ∧ i ≤ xs.length ∧ Pv i H, ⟨xs.length, by simp, Nat.zero_le _, h0⟩, ?_⟩
  rintro i m H ⟨rfl, hi, p⟩
  have q := hl i H hi p
  by_cases hlt : i < xs.length
  · refine .inr ⟨⟨xs, xs[i], q, by simp [hlt]⟩, Pv (i + 1), fun H' p' => ⟨xs.length - (i + 1), by omega, rfl, hlt, p'⟩, fun x H' y => ?_⟩
    obtain ⟨e, y⟩ := y
    subst e
    exact hs i x _ (y xs q) p
  · have e : i = xs.length := by omega
    subst e
    exact .inl ⟨⟨xs, q, Nat.le_refl _⟩, hd H p⟩
/-- for c in a text -/
theorem for_str {l : List Nat} {g : TG} {tb : TS} {D : Ends} {σ : L2.St} {H : Hp} (Pv : Nat → L2.St → Hp → Prop) (h0 : Pv 0 σ H)
    (hs : ∀ i c σ H, l[i]? = some c → Pv i σ H → g (.str ⟨#[c]⟩) σ H fun σ2 H2 => tb { D with nx := Pv (i + 1), ct := Pv (i + 1), bk := D.nx } σ2 H2) (hd : ∀ σ H, Pv l.length σ H → D.nx σ H) :
    ∃ W : Nat → Nat → L2.St → Hp → Prop, (∃ m, W 0 m σ H) ∧ ∀ i m σ H, W i m σ H →
      ((Its (sO l)).stop i H ∧ D.nx σ H) ∨ ((Its (sO l)).go i H ∧ ∃ N : L2.St → Hp → Prop, (∀ σ' H', N σ' H' → ∃ m', m' < m ∧ W (i + 1) m' σ' H') ∧ ∀ x H', (Its (sO l)).yld i H x H' → g x σ H' fun σ2 H2 => tb { D with nx := N, ct := N, bk := D.nx } σ2 H2) := by
  refine ⟨fun i m σ H => m = l.length - i ∧ i ≤ l.length ∧ Pv i σ H, ⟨l.length, by simp, Nat.zero_le _, h0⟩, ?_⟩
  rintro i m σ H ⟨rfl, hi, p⟩
  by_cases hlt : i < l.length
  · refine .inr ⟨?_, Pv (i + 1), fun σ' H' p' => ⟨l.length - (i + 1), by omega, rfl, hlt, p'⟩, fun x H' y => ?_⟩
    · show i < l.toArray.size
      rw [List.size_toArray]; exact hlt
    · obtain ⟨rfl, c, hc, rfl⟩ := y
      have hc : l.toArray[i]? = some c := hc
      rw [List.getElem?_toArray] at hc
      exact hs i c σ _ hc p
  · have e : i = l.length := by omega
    subst e
    refine .inl ⟨?_, hd σ H p⟩
    show l.toArray.size ≤ l.length
    rw [List.size_toArray]; exact Nat.le_refl _
/-! #### written texts -/
theorem blank_eq : Str.ofString " " = ⟨#[32]⟩ := by decide +kernel
theorem feed_eq : Str.ofString "\n" = ⟨#[10]⟩ := by decide +kernel
theorem ends_eq : Str.ofString " \n" = sO [32, 10] := by decide +kernel
theorem empty_eq : Str.ofString "" = sO [] := by decide +kernel
theorem str_inj_dec {l m : List Nat} : decide (V.str (sO l) = V.str (sO m)) = decide (l = m) := decide_eq_decide.mpr ⟨fun e => by
  have := congrArg (fun v => match v with | V.str x => x.cps.toList | _ => []) e
  simpa [sO] using this, fun e => by rw [e]⟩
theorem empty_dec {l : List Nat} : decide (V.str (sO l) = V.str (Str.ofString "")) = l.isEmpty := by
  rw [empty_eq, str_inj_dec]
  cases l <;> rfl
theorem sign_dec {c d : Nat} : decide (V.str ⟨#[c]⟩ = V.str ⟨#[d]⟩) = decide (c = d) := by
  have := str_inj_dec (l := [c]) (m := [d])
  rw [show (V.str ⟨#[c]⟩) = V.str (sO [c]) from rfl, show (V.str ⟨#[d]⟩) = V.str (sO [d]) from rfl, this]
  exact decide_eq_decide.mpr ⟨fun e => by cases e; rfl, fun e => by rw [e]⟩
theorem feed_dec {c : Nat} : decide (V.str ⟨#[c]⟩ = V.str (Str.ofString "\n")) = decide (c = 10) := by rw [feed_eq, sign_dec]
theorem blank_dec {c : Nat} : decide (V.str ⟨#[c]⟩ = V.str (Str.ofString " ")) = decide (c = 32) := by rw [blank_eq, sign_dec]
theorem ends_dec {c : Nat} : decide (c ∈ (Str.ofString " \n").cps.toList) = decide (c = 32 ∨ c = 10) := by
  rw [ends_eq]
  exact decide_eq_decide.mpr (by simp [sO])
theorem sO_append (a b : List Nat) : sO a ++ sO b = sO (a ++ b) := by
  show (⟨a.toArray ++ b.toArray⟩ : Str) = ⟨(a ++ b).toArray⟩
  simp
theorem sO_len (l : List Nat) : (sO l).length = l.length := by
  show l.toArray.size = _
  rw [List.size_toArray]
theorem cutS_take (l : List Nat) (m : Nat) : cutS (sO l) none (some (m : Int)) = sO (l.take m) := by
  unfold cutS
  rw [HT.sIx_none, HT.sIx_nat, Nat.sub_zero, List.drop_zero, sO_len]
  show sO (l.take (min m l.length)) = _
  by_cases h : m ≤ l.length
  · rw [Nat.min_eq_left h]
  · rw [Nat.min_eq_right (by omega), List.take_of_length_le (Nat.le_refl _), List.take_of_length_le (by omega)]
end My

/-! ### own errors -/
namespace My
open PySem PySem.Spec PyProof.Rows L2
structure Ex (K : PySem.W.Frag) (mg : Str → Option Value) (x : Str) where
  C : Addr
  g : mg x = some (.ref C)
  x : PySem.W.excIn K C [.type "ValueError", .type "Exception", .type "BaseException", .type "object"] "ValueError.__new__" = true
  k : PySem.W.keepIn K (.ref C) = true
  b : PySem.W.subIn K (.ref C) (.type "BaseException") = some true
  t : PySem.W.typeIn K (.ref C) = some (.type "type")
  E : ExcC K C
def ex_mk {K : PySem.W.Frag} {mg : Str → Option Value} {x : Str} {h : Heap} (X : K.In h) (G : h.Ns mainGlobals mg) {C : Addr} (g : PySem.W.nsIn K mainGlobals x = some (some (.ref C)))
    (x1 : PySem.W.excIn K C [.type "ValueError", .type "Exception", .type "BaseException", .type "object"] "ValueError.__new__" = true) (x2 : PySem.W.keepIn K (.ref C) = true) (x3 : PySem.W.subIn K (.ref C) (.type "BaseException") = some true) (x4 : PySem.W.typeIn K (.ref C) = some (.type "type"))
    (y1 : PySem.W.findIn K (.ref C) "__getattribute__" = some (some (.builtin "BaseException.__getattribute__"))) (y2 : PySem.W.findIn K (.ref C) "__getattr__" = some none) (y3 : PySem.W.hasDictIn K C = true) (y4 : PySem.W.findIn K (.ref C) "__class__" = some (some (.builtin "object.__class__")))
    (y5 : PySem.W.specialIn K (.builtin "object.__class__") "__get__" = some (some (.builtin "getset_descriptor.__get__"))) (y6 : PySem.W.takesIn K (.builtin "object.__class__") = some true) (y7 : PySem.W.mroIn K C (.type "object") = some true) : Ex K mg x :=
  ⟨C, PySem.W.mg_of X G g, x1, x2, x3, x4, ⟨y1, y2, x3, y3, y4, y5, y6, y7⟩⟩
section
variable {K : PySem.W.Frag} {mg : Str → Option Value} {x y : Str} {cv : Value} {b : Bool}
theorem Ex.exm (e : Ex K mg x) (h : PySem.W.subIn K cv (.ref e.C) = some b) : PySem.W.exmOne K cv (.ref e.C) = some b := PySem.W.exm_ref e.b e.E.hd e.t h
theorem Ex.kcls (e : Ex K mg x) (h : PySem.W.subIn K cv (.ref e.C) = some b) : PySem.W.kitCls K cv (.ref e.C) = some b := by
  have hc : (PySem.W.clsIn K e.C).isSome = true := by
    have := e.E.hd
    unfold PySem.W.hasDictIn at this
    cases q : PySem.W.clsIn K e.C with
    | none => rw [q] at this; cases this
    | some c => rfl
  have e2 : ((PySem.W.clsIn K e.C).isSome && PySem.W.typeIn K (.ref e.C) == some (.type "type")) = true := by rw [hc, e.t] <;> rfl
  show (if ((PySem.W.clsIn K e.C).isSome && PySem.W.typeIn K (.ref e.C) == some (.type "type")) = true then PySem.W.subIn K cv (.ref e.C) else none) = some b
  rw [if_pos e2]
  exact h
/-- isinstance of an error's class: by the chains of the two classes -/
theorem Ex.kit (d : Ex K mg y) (e : Ex K mg x) (s : PySem.W.subIn K (.ref d.C) (.ref d.C) = some true) (h : PySem.W.subIn K (.ref d.C) (.ref e.C) = some b) : PySem.W.kitOne K (.ref d.C) (.ref e.C) = some b := by
  unfold PySem.W.kitOne
  split
  · next q =>
    have z : (Value.ref d.C) = .ref e.C := beq_iff_eq.mp q
    rw [← z, s] at h
    cases h
    rfl
  · exact e.kcls h
theorem Ex.kitT (d : Ex K mg y) {n : String} (h : PySem.W.subIn K (.ref d.C) (.type n) = some b) (m : PySem.W.kitMeta n = true := by decide +kernel) : PySem.W.kitOne K (.ref d.C) (.type n) = some b := by
  unfold PySem.W.kitOne
  split
  · next q =>
    have z : (Value.ref d.C) = .type n := beq_iff_eq.mp q
    cases z
  · show (if PySem.W.kitMeta n = true then PySem.W.subIn K (.ref d.C) (.type n) else none) = some b
    rw [if_pos m]
    exact h
end
/-- an error class that is only asked about -/
structure Ec (K : PySem.W.Frag) (mg : Str → Option Value) (x : Str) where
  C : Addr
  g : mg x = some (.ref C)
  t : PySem.W.typeIn K (.ref C) = some (.type "type")
  d : PySem.W.hasDictIn K C = true
def ec_mk {K : PySem.W.Frag} {mg : Str → Option Value} {x : Str} {h : Heap} (X : K.In h) (G : h.Ns mainGlobals mg) {C : Addr} (g : PySem.W.nsIn K mainGlobals x = some (some (.ref C)))
    (x1 : PySem.W.typeIn K (.ref C) = some (.type "type")) (x2 : PySem.W.hasDictIn K C = true) : Ec K mg x := ⟨C, PySem.W.mg_of X G g, x1, x2⟩
theorem Ex.kitC {K : PySem.W.Frag} {mg : Str → Option Value} {x y : Str} {b : Bool} (d : Ex K mg y) (e : Ec K mg x) (s : PySem.W.subIn K (.ref d.C) (.ref d.C) = some true) (h : PySem.W.subIn K (.ref d.C) (.ref e.C) = some b) : PySem.W.kitOne K (.ref d.C) (.ref e.C) = some b := by
  unfold PySem.W.kitOne
  split
  · next q =>
    have z : (Value.ref d.C) = .ref e.C := beq_iff_eq.mp q
    rw [← z, s] at h
    cases h
    rfl
  · have hc : (PySem.W.clsIn K e.C).isSome = true := by
      have := e.d
      unfold PySem.W.hasDictIn at this
      cases q : PySem.W.clsIn K e.C with
      | none => rw [q] at this; cases this
      | some c => rfl
    have e2 : ((PySem.W.clsIn K e.C).isSome && PySem.W.typeIn K (.ref e.C) == some (.type "type")) = true := by rw [hc, e.t] <;> rfl
    show (if ((PySem.W.clsIn K e.C).isSome && PySem.W.typeIn K (.ref e.C) == some (.type "type")) = true then PySem.W.subIn K (.ref d.C) (.ref e.C) else none) = some b
    rw [if_pos e2]
    exact h
/-- isinstance(e, c) in a suite, the error's class told in the reading -/
def rIsX (K : PySem.W.Frag) (cls : Value) (d : Option Addr) (a : Addr) : List V → Hp → VK → Prop := fun xs H Q => ∃ (D : Addr) (c : V) (cv : Value) (b : Bool), cls = .ref D ∧ d = none ∧ ExcC K D ∧ xs = [.ref a, c] ∧ (∀ u, RelV c u → u = cv) ∧ PySem.W.kitOne K (.ref D) cv = some b ∧ Q (.bl b) H
theorem call_isX {X : Cx} {a : Addr} {cls : Value} {d : Option Addr} {oe : Obj} {pn : List (Addr × Obj)} (hz : Zc cls d oe) (hf : ∃ vs, oe.data = .fields vs) : CallR (X.suite a ((a, oe) :: pn)) (.builtin "isinstance") (rIsX X.K cls d a) := by
  intro pins s σ H xs us Q I r h
  obtain ⟨D, c, cv, b, rfl, rfl, C, e, hc, hk, q⟩ := h
  exact call_isE C hz hf pins s σ H xs us Q I r ⟨c, cv, b, e, hc, hk, q⟩
section
variable {X : Cx}
/-- [..].count(x), of flat ones -/
def rCntF (K : PySem.W.Frag) : V → List V → Hp → VK → Prop := fun x xs H Q => ∃ (a : Addr) (ys : List V) (y : V), x = .ref a ∧ xs = [y] ∧ SqL K H a ys ∧ flatV y = true ∧ ys.all flatV = true ∧ Q (.int (ys.countP (fun z => eqV z y) : Nat)) H
theorem cnt_flat {y : V} : ∀ {us : List Value} {ys : List V}, Vals ys us → ys.all flatV = true → us.countP (eqU y) = ys.countP (fun z => eqV z y)
  | _, _, .nil, _ => rfl
  | _, _, .cons r t, f => by
    rw [List.all_cons, Bool.and_eq_true] at f
    rw [List.countP_cons, List.countP_cons, cnt_flat t f.2, eqU_of r f.1]
theorem mt_countF : MtR X "list.count" (rCntF X.K) := by
  intro pins s σ H x xs v us Q I rx rxs h
  obtain ⟨a, ys, y, rfl, rfl, hs, fy, fys, q⟩ := h
  cases rx
  cases rxs with
  | cons ry rt =>
    rename_i uy ut
    cases rt
    obtain ⟨its, rv, ⟨⟨cls, dd, data, sl⟩, n, ho, hc, hdn, hd⟩, hlen⟩ := I.list hs
    simp only at hc hd
    subst hc hd
    refine call_meets PySem.F.slot_list_count ⟨_, ho, rfl⟩ PySem.F.entry_list_count (PySem.F.args_list_count_2 _ _)
      (SeqAt.list_countAt a its.toArray n dd sl uy (eqU y)) ⟨ho, fun u' hu' => mem_eqAt ry fy rv fys u' (by simpa using hu'), ?_⟩
    refine ⟨.int (ys.countP (fun z => eqV z y) : Nat), H, I.tok _, ⟨s.toks, ?_⟩, q⟩
    show Value.int ((its.toArray.toList.countP (eqU y) : Nat) : Int) s.toks = Value.int ((ys.countP (fun z => eqV z y) : Nat) : Int) s.toks
    rw [show its.toArray.toList = its from rfl, cnt_flat rv fys]
theorem mt_countFK {K : PySem.W.Frag} (h : X.K = K) : MtR X "list.count" (rCntF K) := by subst h; exact mt_countF
theorem mt_indexK {K : PySem.W.Frag} (h : X.K = K) : MtR X "list.index" (L2.rIndex K) := by subst h; exact mt_index
theorem pe_bmK {K : PySem.W.Frag} {T name id : String} {r : V → List V → Hp → VK → Prop} {o e : Expr} {es : List Expr} {to : TE} {t : TA} {apos cpos : Pos} (h : X.K = K) (pa : PlainAttrs T) (slot : Slot T name id) (hty : typeOf (.builtin id) = pure (.type "method_descriptor")) (hm : MtR X id r) (ho : PE X o to) (ha : PA X (e :: es) t)
    (hbase : attributeBase o name X.env (eval o X.env) = eval o X.env := by rfl)
    (hfew : ((backTo cpos (starEach (e :: es) X.env)).all (fun x => !x.1) && (backToKw cpos (keywordEach [] X.env)).all (fun x => x.1.isSome)
      && decide ((e :: es).length + ([] : List Keyword).length + (if ([] : List Keyword).isEmpty then 0 else 1) < 30)) = true := by rfl)
    (hline : (apos.endLine == cpos.line) = true := by rfl) (hs : starEach (e :: es) X.env = (false, eval e X.env) :: starEach es X.env := by rfl) (hplain : (backTo cpos (starEach es X.env)).any (·.1) = false := by rfl) :
    PE X (.Call (.Attribute o name apos) (e :: es) [] cpos) (tBM K T r to t) := by
  subst h
  exact pe_bm pa slot hty hm ho ha hbase hfew hline hs hplain
theorem op_eqVK {K : PySem.W.Frag} (hu : X.A.units + 64 < cLine) (h : X.K = K) : OpR X (compareOp .Eq) (rEqV K) := by subst h; exact op_eqV hu
end
end My

/-! ### defs with keyword-only defaults -/
namespace My
open PySem PySem.Spec PyProof.Rows L2
structure DfK (K : PySem.W.Frag) (mg : Str → Option Value) (x : Str) (st : Stmt) (ps : List Str) (kws : List (Str × V)) where
  f : Addr
  fd : FuncData
  FD : FunD K x x (defArgs st) (defBody st) (defScope st) [] kws f fd
  bx : ∃ ds, Vals (kws.map (·.2)) ds ∧ Binds K fd ps ds
  g : mg x = some (.ref f)
section
variable {K : PySem.W.Frag} {mg : Str → Option Value} {x : Str} {st : Stmt} {ps : List Str} {kws : List (Str × V)}
theorem DfK.F (d : DfK K mg x st ps kws) : Fun K x x st d.f d.fd := by
  obtain ⟨oc, od, dV, kV, doc, pm, an, cdv, ct, osl, e, l, c, hd, _⟩ := d.FD.ex
  rcases hd with ⟨_, e2⟩ | ⟨e2, _⟩
  · subst e2
    exact ⟨⟨oc, od, kV, doc, pm, an, cdv, ct, osl, e, l, c⟩, d.FD.kp⟩
  · exact absurd rfl e2
theorem DfK.v (d : DfK K mg x st ps kws) : Vals (kws.map (·.2)) (Classical.choose d.bx) := (Classical.choose_spec d.bx).1
theorem DfK.b (d : DfK K mg x st ps kws) : Binds K d.fd ps (Classical.choose d.bx) := (Classical.choose_spec d.bx).2
def dfK_mk {h : Heap} (X : K.In h) (G : h.Ns mainGlobals mg) {f D : Addr} {oc : Value} {od an : Option Addr} {osl : Array (Option Value)} {doc pm cdv ct u : Value} {y : Str} {v : V} (n : Nat)
    (a : PySem.W.nsIn K mainGlobals x = some (some (.ref f))) (l : K.lookup f = some ⟨oc, od, .func (PySem.W.fnOf x x (defArgs st) (defBody st) (defScope st) .none (.ref D) doc pm an cdv ct), osl⟩)
    (c : PySem.W.codeIn K cdv x = true) (k : PySem.W.keepIn K (.ref f) = true) (e : PySem.W.nsIn K D y = some (some u)) (rv : RelV v u) (hn : n + 1 = ps.length)
    (hb : ∀ (D : Addr) (doc pm : Value) (an : Option Addr) (cdv ct : Value) (us ks : List Value), us.length = n → ks.length = 1 →
      KwChain D ([y].zip ks) (bindArgs (PySem.W.fnOf x x (defArgs st) (defBody st) (defScope st) .none (.ref D) doc pm an cdv ct) ⟨us, []⟩) (ps.zip (us ++ ks))) : DfK K mg x st ps [(y, v)] :=
  have F : FunD K x x (defArgs st) (defBody st) (defScope st) [] [(y, v)] f (PySem.W.fnOf x x (defArgs st) (defBody st) (defScope st) .none (.ref D) doc pm an cdv ct) := ⟨⟨oc, od, .none, .ref D, doc, pm, an, cdv, ct, osl, rfl, l, c, .inl ⟨rfl, rfl⟩, .inr ⟨D, rfl, fun q hq => by rw [List.mem_singleton.mp hq]; exact ⟨u, e, rv⟩⟩⟩, k⟩
  ⟨f, _, F, F.binds0 n (by intro z; cases z) hn hb, PySem.W.mg_of X G a⟩
end
/-! ### a call by keywords in a try's body -/
def tCallNS (n m : Nat) (sp : Sp) (gV : List V → List V → List V) (E : L2.St → XK) (t tk : TA) : TE := fun σ H Q => t σ H fun vs H1 => tk σ H1 fun zs H2 => vs.length = n ∧ zs.length = m ∧ sp (gV vs zs) H2 Q (E σ)
section
variable {X : Cx} {CX : CXT} {k n : Nat} {f : Addr} {fd : FuncData} {ps ks : List Str} {sp : Sp} {E : L2.St → XK} {x : Str} {p pos : Pos} {e : Expr} {es : List Expr} {kws : List Keyword} {t tk : TA} {g : List Value → List Value → List Value} {gV : List V → List V → List V}
theorem run_fnNS {pins : List (Addr × Obj)} {σ : L2.St} {H : Hp} {s : Shared} {Q : VK} {us ws : List Value} {vs zs : List V} (F : FnOk X.prog X.w X.K X.mg X.base CX k f fd ps sp) (hr : Room k X.A) (hb : KBn X.K fd ps n ks g gV) (hx : PassesAt CX X σ (E σ))
    (I : Inv X pins σ H s) (r : Vals vs us) (rz : Vals zs ws) (l1 : vs.length = n) (l2 : zs.length = ks.length) (h : sp (gV vs zs) H Q (E σ)) : wpAny (model X.prog X.w) X.A (call (.ref f) us (ks.zip ws)) (EP X pins σ Q) X.xe s := by
  have r2 := hb.rel r rz
  refine wpAny_call (codeAny_mono (F.run X.A X.stack s H ⟨us, ks.zip ws⟩ (g us ws) (gV vs zs) Q (E σ) hr I.env0 (hb.to s us ws I.kIn (r.length.symm.trans l1) (rz.length.symm.trans l2)) r2 h) fun r s' hq => ?_)
  cases r with
  | error e => exact hx pins H s e s' I hq
  | ok fl =>
    cases fl with
    | ret u => exact I.after hq
    | next => exact False.elim hq
    | brk => exact False.elim hq
    | cont => exact False.elim hq
theorem pe_callNS (F : FnOk X.prog X.w X.K X.mg X.base CX k f fd ps sp) (hr : Room k X.A) (hg : Gl X x) (hm : X.mg x = some (.ref f)) (hk : PySem.W.keepIn X.K (.ref f) = true) (hb : KBn X.K fd ps n ks g gV) (hx : ∀ σ, PassesAt CX X σ (E σ))
    (ha : PA X (e :: es) t) (hkw : PK X kws tk) (hall : (backToKw pos (keywordEach kws X.env)).all (·.1.isSome) = true := by rfl) (hks : (backToKw pos (keywordEach kws X.env)).filterMap (·.1) = ks := by rfl)
    (hdb : (x == ("__debug__" : Str)) = false := by decide) (he : starEach (e :: es) X.env = (false, eval e X.env) :: starEach es X.env := by rfl)
    (hpl : ((backTo pos (starEach (e :: es) X.env)).any (·.1) || (backToKw pos (keywordEach kws X.env)).any (·.1.isNone)) = false := by rfl) :
    PE X (.Call (.Name x p) (e :: es) kws pos) (tCallNS n ks.length sp gV E t tk) := by
  refine ⟨fun pins s σ H Q I h => ?_⟩
  refine wpAny_Call_Name_kw (ld_glob I hg hm ?_ hdb)
  refine PySem.W.callWith_KW (h₀ := X.base) I.ok.mod.kin hk hall (thn (ha.run pos pins s σ H _ I h) fun us s1 ⟨vs, H1, I1, r, q⟩ => ?_) hpl he
  refine thn (hkw.run pos pins s1 σ H1 _ I1 q) fun ws s2 ⟨zs, H2, I2, rz, l1, l2, q2⟩ => ⟨I2.kIn, ?_⟩
  rw [hks]
  exact run_fnNS F hr hb (hx σ) I2 r rz l1 l2 q2
end
/-- a tuple that stands ahead -/
theorem sqT_K {K : PySem.W.Frag} {a : Addr} {o : Obj} {its : Array Value} {n : Nat} {xs : List V} (l : K.lookup a = some o) (c : o.cls = .type "tuple") (d : o.data = .seq its n) (z : its.size ≤ sizeLine) (r : Vals xs its.toList) (H : Hp) : SqT K H a xs := .inr ⟨o, its, n, l, c, d, z, r⟩
theorem SqT.tyx {K : PySem.W.Frag} {H : Hp} {a : Addr} {xs : List V} (h : SqT K H a xs) : TyX K H (.ref a) (.type "tuple") := by
  rcases h with (h | ⟨o, h⟩) | ⟨o, its, n, l, c, _⟩
  · exact .base (.tup h)
  · exact .fTuple h
  · exact .kTuple l c
/-- isinstance(x, tuple), of a tuple that stands ahead, too -/
def rIsTup (K : PySem.W.Frag) : List V → Hp → VK → Prop := fun xs H Q => (∃ x t, xs = [x, .ty "tuple"] ∧ Ty7 H x t ∧ Q (.bl (decide (t = "tuple"))) H) ∨ ∃ a ys, xs = [.ref a, .ty "tuple"] ∧ SqT K H a ys ∧ Q (.bl true) H
theorem call_isTup {X : Cx} : CallR X (.builtin "isinstance") (rIsTup X.K) := by
  intro pins s σ H xs us Q I r h
  rcases h with ⟨x, t, e, h7, q⟩ | ⟨a, ys, e, hs, q⟩
  · exact is_tuple pins s σ H xs us Q I r ⟨x, t, e, h7, q⟩
  · exact call_isi pins s σ H xs us Q I r ⟨_, _, _, _, _, e, .ty _, SqT.tyx hs, kit_ty (by decide +kernel), q⟩
theorem call_isTupK {X : Cx} {K : PySem.W.Frag} (h : X.K = K) : CallR X (.builtin "isinstance") (rIsTup K) := h ▸ call_isTup
end My

/-! ### own classes whose __init__ has keyword-only defaults -/
namespace My
open PySem PySem.Spec PyProof.Rows L2 RZ
structure Cl (K : PySem.W.Frag) (mg : Str → Option Value) (x : Str) where
  C : Addr
  g : mg x = some (.ref C)
  cls : Cls K C
def cl_mk {K : PySem.W.Frag} {mg : Str → Option Value} {x : Str} {h : Heap} (X : K.In h) (G : h.Ns mainGlobals mg) {C : Addr} (a : PySem.W.nsIn K mainGlobals x = some (some (.ref C)))
    (pg : PySem.W.plainGet K C Str.empty = true) (hd : PySem.W.hasDictIn K C = true) (po : PySem.W.plainOver K C = true) (sa : PySem.W.findIn K (.ref C) "__setattr__" = some (some (.builtin "object.__setattr__"))) : Cl K mg x :=
  ⟨C, PySem.W.mg_of X G a, ⟨pg, hd, po, sa⟩⟩
inductive KwIn (K : PySem.W.Frag) (D : Addr) : List (Str × V) → Prop
  | nil : KwIn K D []
  | cons {y : Str} {v : V} {u : Value} {l : List (Str × V)} (e : PySem.W.nsIn K D y = some (some u)) (r : RelV v u) (t : KwIn K D l) : KwIn K D ((y, v) :: l)
theorem KwIn.all {K : PySem.W.Frag} {D : Addr} : ∀ {l : List (Str × V)}, KwIn K D l → ∀ q ∈ l, ∃ u, PySem.W.nsIn K D q.1 = some (some u) ∧ RelV q.2 u
  | _, .nil, q, h => by cases h
  | _, .cons e r t, q, h => by
    rcases List.mem_cons.mp h with rfl | h
    · exact ⟨_, e, r⟩
    · exact t.all q h
structure Ini (K : PySem.W.Frag) (q : Str) (st : Stmt) (C : Addr) (kws : List (Str × V)) where
  f : Addr
  fd : FuncData
  FD : FunD K "__init__" q (defArgs st) (defBody st) (defScope st) [] kws f fd
  mks : Mk K C f
theorem Ini.F {K : PySem.W.Frag} {q : Str} {st : Stmt} {C : Addr} {kws : List (Str × V)} (d : Ini K q st C kws) : Fun K "__init__" q st d.f d.fd := by
  obtain ⟨oc, od, dV, kV, doc, pm, an, cdv, ct, osl, e, l, c, hd, _⟩ := d.FD.ex
  rcases hd with ⟨_, e2⟩ | ⟨e2, _⟩
  · subst e2
    exact ⟨⟨oc, od, kV, doc, pm, an, cdv, ct, osl, e, l, c⟩, d.FD.kp⟩
  · exact absurd rfl e2
def ini_mk {K : PySem.W.Frag} {q : Str} {st : Stmt} {C : Addr} {kws : List (Str × V)} {f D : Addr} {oc : Value} {od an : Option Addr} {osl : Array (Option Value)} {doc pm cdv ct : Value}
    (i : PySem.W.findIn K (.ref C) "__init__" = some (some (.ref f))) (m : PySem.W.makesIn K C = true) (fn : PySem.W.isFn K (.ref f) = true) (kc : PySem.W.keepIn K (.ref C) = true)
    (l : K.lookup f = some ⟨oc, od, .func (PySem.W.fnOf "__init__" q (defArgs st) (defBody st) (defScope st) .none (.ref D) doc pm an cdv ct), osl⟩) (c : PySem.W.codeIn K cdv q = true) (k : PySem.W.keepIn K (.ref f) = true) (kw : KwIn K D kws) : Ini K q st C kws :=
  ⟨f, _, ⟨⟨oc, od, .none, .ref D, doc, pm, an, cdv, ct, osl, rfl, l, c, .inl ⟨rfl, rfl⟩, .inr ⟨D, rfl, kw.all⟩⟩, k⟩, ⟨m, i, fn, kc⟩⟩
/-- one of a list, as a list -/
def pick1 {α : Type} (i : Nat) (l : List α) : List α := (l.drop i).take 1
theorem vals_pick {xs : List V} {us : List Value} (r : Vals xs us) (i : Nat) : Vals (pick1 i xs) (pick1 i us) := (r.drop i).take 1
/-! #### o.f as a target among others -/
def gFld (K : PySem.W.Frag) (to : TE) (f : Str) : TG := fun y σ H Q => to σ H fun x H2 => ∃ a C dx fs, x = .ref a ∧ H2 a = some (.ins C dx fs) ∧ Cls K C ∧ NoAttr K C f ∧ fs.length < 1000 ∧ Q σ (upd H2 a (.ins C dx (putF f y fs)))
theorem pg_fld {X : Cx} {o : Expr} {f : Str} {pos : Pos} {to : TE} (ho : PE X o to) : PG X (.Attribute o f pos) (gFld X.K to f) := by
  refine ⟨fun pins s σ H v u Q I r h => ?_⟩
  rw [assign_Attribute]
  refine wpAny_bind (wpAny_holding (thn (ho.run pins s σ H _ I h) fun ov s2 ⟨x, H2, I2, rx, a, C, dx, fs, ex, ea, c, n, l, q2⟩ => ?_))
  subst ex
  obtain rfl : ov = Value.ref a := rx
  exact wpAny_bind (wpAny_standAt (wpAny_bind (wpAny_holding (setattr_ok I2 ea c n l r fun s3 I3 => wpAny_release ⟨σ, _, I3, q2⟩))))
theorem pg_fldK {X : Cx} {K : PySem.W.Frag} (h : X.K = K) {o : Expr} {f : Str} {pos : Pos} {to : TE} (ho : PE X o to) : PG X (.Attribute o f pos) (gFld K to f) := h ▸ pg_fld ho
/-! #### zip of two tuples -/
theorem pi_zipAK {X : Cx} {K : PySem.W.Frag} (h : X.K = K) {e e2 : Expr} {ta : TA} {p pos tpos : Pos} {elts : List Expr} {kk : Nat} (hg : Gl X "zip") (hm : X.mg "zip" = none) (ha : PA X [e, e2] ta)
    (he : starEach [e, e2] X.env = (false, eval e X.env) :: starEach [e2] X.env := by rfl) (hpl : (backTo pos (starEach [e2] X.env)).any (·.1) = false := by rfl) : PI X (.Tuple elts kk tpos) (.Call (.Name "zip" p) [e, e2] [] pos) (iZipA K ta) := h ▸ pi_zipA hg hm ha he hpl
section
variable {K : PySem.W.Frag} {g : TG} {tt : TT} {te : TE} {vs : List Nat} {σ : L2.St} {H1 : Hp} {D a b : Addr} {Qd : Hp → Prop} {xs zs : List V} {n : Nat}
theorem lcZT (hlen : xs.length = zs.length) (P : Nat → List V → Hp → Prop) (h0 : ∀ H', Same H1 H' → H' D = some (.lst []) → P 0 [] H') (hD : H1 D = none) (hl : ∀ i acc H, P i acc H → SqT K H a xs ∧ SqT K H b zs)
    (hs : ∀ i x z acc H T H' Kt Kf, xs[i]? = some x → zs[i]? = some z → P i acc H → H D = some (.lst acc) → H T = none → Same H H' → H' T = some (.tup [x, z]) → LcK D (P (i + 1)) acc Kt Kf → LcT g tt te vs σ (.ref T) H' Kt Kf)
    (hd : ∀ acc H, P xs.length acc H → H D = some (.lst acc) → Qd H) : LcG (ItzT K a b) g tt te vs σ H1 D Qd := by
  refine ⟨fun i m H => m = xs.length - i ∧ i ≤ xs.length ∧ ∃ acc, H D = some (.lst acc) ∧ P i acc H, ⟨xs.length, rfl, Nat.zero_le _, [], upd_same, h0 _ (Same.upd0 hD) upd_same⟩, ?_⟩
  rintro i m H ⟨rfl, hi, acc, e, p⟩
  obtain ⟨q1, q2⟩ := hl i acc H p
  by_cases hlt : i < xs.length
  · have hlt2 : i < zs.length := by omega
    refine .inr ⟨⟨xs, zs, xs[i], zs[i], q1, q2, by simp [hlt], by simp [hlt2]⟩, fun H => ∃ acc, H D = some (.lst acc) ∧ P (i + 1) acc H, fun H' p' => ⟨xs.length - (i + 1), by omega, rfl, hlt, p'⟩, fun v H' y => ?_⟩
    obtain ⟨T, x, z, rfl, nT, rfl, hx, hz⟩ := y
    exact hs i x z acc H T _ _ _ (hx xs q1) (hz zs q2) p e nT (Same.upd0 nT) upd_same ⟨fun y H4 e4 z k => ⟨acc, e4, z, acc ++ [y], upd_same, k _ But.refl.upd upd_same⟩, fun H3 e3 k => ⟨acc, e3, k⟩⟩
  · have ei : i = xs.length := by omega
    subst ei
    exact .inl ⟨⟨xs, zs, q1, q2, .inl (Nat.le_refl _)⟩, hd acc H p e⟩
/-- .. all the same thing -/
theorem lcZTc (v : V) (hlen : xs.length = zs.length) (hD : H1 D = none) (ha : SqT K H1 a xs) (hb : SqT K H1 b zs) (hz : xs.length ≤ 100000)
    (hs : ∀ (i : Nat) (x z : V) (T : Addr) (H' : Hp) (Kt : V → Hp → Prop) (Kf : Hp → Prop), xs[i]? = some x → zs[i]? = some z → Same H1 H' → H' T = some (.tup [x, z]) → (∀ H4, Same H' H4 → Kt v H4) → LcT g tt te vs σ (.ref T) H' Kt Kf)
    (hd : ∀ H, Same H1 H → H D = some (.lst (List.replicate xs.length v)) → Qd H) : LcG (ItzT K a b) g tt te vs σ H1 D Qd :=
  lcZT hlen (fun i acc H => acc = List.replicate i v ∧ Same H1 H) (fun H' s _ => ⟨rfl, s⟩) hD (fun i acc H p => ⟨Same.seqT p.2 ha, Same.seqT p.2 hb⟩)
    (fun i x z acc H T H' Kt Kf hx hz' p e nT s gT k => by
      obtain ⟨rfl, sm⟩ := p
      have hi := (List.getElem?_eq_some_iff.mp hx).1
      refine hs i x z T H' Kt Kf hx hz' (sm.trans s) gT fun H4 s4 => k.yes v H4 (s4 _ _ (s _ _ e)) (by rw [List.length_replicate, sizeLine_eq]; omega) fun H5 b5 _ => ⟨List.replicate_succ'.symm, Same.mut' ((sm.trans s).trans s4) b5 hD⟩)
    (fun acc H p e => hd H p.2 (by rw [← p.1]; exact e))
end
end My

/-! ### making instances where the __init__ may raise; isinstance of own instances -/
namespace My
open PySem PySem.Spec PyProof.Rows L2
def tMakeKS (C : Addr) (n m : Nat) (sp : Sp) (gV : List V → List V → List V) (E : L2.St → XK) (t tk : TA) : TE := fun σ H Q => t σ H fun vs H1 => tk σ H1 fun zs H2 => vs.length = n ∧ zs.length = m ∧ ∀ x dx, H2 x = none → H2 dx = none → dx ≠ x →
  sp (gV (.ref x :: vs) zs) (upd (upd H2 dx (.own x)) x (.ins C dx [])) (fun v H3 => v = .non ∧ Q (.ref x) H3) (E σ)
section
variable {X : Cx} {CX : CXT} {k n : Nat} {f C : Addr} {fd : FuncData} {ps ks : List Str} {sp : Sp} {E : L2.St → XK} {x : Str} {p pos : Pos} {e : Expr} {es : List Expr} {kws : List Keyword} {t tk : TA} {g : List Value → List Value → List Value} {gV : List V → List V → List V}
theorem run_makeKS {pins : List (Addr × Obj)} {σ : L2.St} {H : Hp} {s : Shared} {Q : VK} {us ws : List Value} {vs zs : List V} (M : Mk X.K C f) (F : FnOk X.prog X.w X.K X.mg X.base CX k f fd ps sp) (hr : Room (k + 1) X.A) (hb : KBn X.K fd ps (n + 1) ks g gV) (hx : PassesAt CX X σ (E σ))
    (I : Inv X pins σ H s) (r : Vals vs us) (rz : Vals zs ws) (l1 : vs.length = n) (l2 : zs.length = ks.length)
    (h : ∀ x dx, H x = none → H dx = none → dx ≠ x → sp (gV (.ref x :: vs) zs) (upd (upd H dx (.own x)) x (.ins C dx [])) (fun v H2 => v = .non ∧ Q (.ref x) H2) (E σ)) :
    wpAny (model X.prog X.w) X.A (call (.ref C) us (ks.zip ws)) (EP X pins σ Q) X.xe s := by
  have hq := h (s.heap.objs.size + 1) s.heap.objs.size (I.hok.fresh (Nat.le_succ _)) (I.hok.fresh (Nat.le_refl _)) (Nat.ne_of_lt (Nat.lt_succ_self _))
  have I2 := Inv.made (C := C) I
  have r1 : Vals (V.ref (s.heap.objs.size + 1) :: vs) (Value.ref (s.heap.objs.size + 1) :: us) := .cons rfl r
  have r2 := hb.rel r1 rz
  have n1 : (Value.ref (s.heap.objs.size + 1) :: us).length = n + 1 := by
    rw [List.length_cons, ← r.length, l1]
  refine wpAny_call (make_map (f := f) I.kIn M.makes M.init (beq_iff_eq.mp M.fn) (codeAny_mono (F.run _ X.stack _ _ ⟨Value.ref (s.heap.objs.size + 1) :: us, ks.zip ws⟩ (g (Value.ref (s.heap.objs.size + 1) :: us) ws) _ _ (E σ) (hr.make C us (ks.zip ws))
    (I2.env0.make C us (ks.zip ws)) (hb.to _ (Value.ref (s.heap.objs.size + 1) :: us) ws I2.kIn n1 (rz.length.symm.trans l2)) r2 hq) fun r s' hq' => ?_))
  cases r with
  | error e => exact hx pins _ _ e s' I2 hq'
  | ok fl =>
    cases fl with
    | ret u =>
      obtain ⟨v, H', I3, rv, ev, q3⟩ := I2.after hq'
      subst ev
      exact ⟨rv, ⟨V.ref (s.heap.objs.size + 1), H', I3, rfl, q3⟩⟩
    | next => exact False.elim hq'
    | brk => exact False.elim hq'
    | cont => exact False.elim hq'
/-- C(e, .., k = v, ..) in a try's body -/
theorem pe_makeKS (M : Mk X.K C f) (F : FnOk X.prog X.w X.K X.mg X.base CX k f fd ps sp) (hr : Room (k + 1) X.A) (hg : Gl X x) (hm : X.mg x = some (.ref C)) (hb : KBn X.K fd ps (n + 1) ks g gV) (hx : ∀ σ, PassesAt CX X σ (E σ)) (ha : PA X (e :: es) t) (hkw : PK X kws tk)
    (hall : (backToKw pos (keywordEach kws X.env)).all (·.1.isSome) = true := by rfl) (hks : (backToKw pos (keywordEach kws X.env)).filterMap (·.1) = ks := by rfl) (hdb : (x == ("__debug__" : Str)) = false := by decide)
    (he : starEach (e :: es) X.env = (false, eval e X.env) :: starEach es X.env := by rfl) (hpl : ((backTo pos (starEach (e :: es) X.env)).any (·.1) || (backToKw pos (keywordEach kws X.env)).any (·.1.isNone)) = false := by rfl) :
    PE X (.Call (.Name x p) (e :: es) kws pos) (tMakeKS C n ks.length sp gV E t tk) := by
  refine ⟨fun pins s σ H Q I h => ?_⟩
  refine wpAny_Call_Name_kw (ld_glob I hg hm ?_ hdb)
  refine PySem.W.callWith_KW (h₀ := X.base) I.ok.mod.kin M.kp hall (thn (ha.run pos pins s σ H _ I h) fun us s1 ⟨vs, H1, I1, r, q⟩ => ?_) hpl he
  refine thn (hkw.run pos pins s1 σ H1 _ I1 q) fun ws s2 ⟨zs, H2, I2, rz, l1, l2, q2⟩ => ⟨I2.kIn, ?_⟩
  rw [hks]
  exact run_makeKS M F hr hb (hx σ) I2 r rz l1 l2 q2
end
/-- the defaults of an __init__ called by places alone -/
theorem Ini.bx {K : PySem.W.Frag} {q : Str} {st : Stmt} {C : Addr} {kws : List (Str × V)} (d : Ini K q st C kws) {ps : List Str} (n : Nat) (hk : kws ≠ []) (hn : n + kws.length = ps.length)
    (h : ∀ (D : Addr) (doc pm : Value) (an : Option Addr) (cdv ct : Value) (us ks : List Value), us.length = n → ks.length = kws.length →
      KwChain D ((kws.map (·.1)).zip ks) (bindArgs (PySem.W.fnOf "__init__" q (defArgs st) (defBody st) (defScope st) .none (.ref D) doc pm an cdv ct) ⟨us, []⟩) (ps.zip (us ++ ks))) : ∃ ds, Vals (kws.map (·.2)) ds ∧ Binds K d.fd ps ds := d.FD.binds0 n hk hn h
/-- isinstance of an instance, by its class's chain -/
theorem kit_own {K : PySem.W.Frag} {C D : Addr} {b : Bool} (s : PySem.W.subIn K (.ref C) (.ref C) = some true) (h : PySem.W.subIn K (.ref C) (.ref D) = some b) (t : PySem.W.typeIn K (.ref D) = some (.type "type")) (hd : PySem.W.hasDictIn K D = true) : PySem.W.kitOne K (.ref C) (.ref D) = some b := by
  unfold PySem.W.kitOne
  split
  · next q =>
    have z : (Value.ref C) = .ref D := beq_iff_eq.mp q
    rw [← z, s] at h
    cases h
    rfl
  · have hc : (PySem.W.clsIn K D).isSome = true := by
      have := hd
      unfold PySem.W.hasDictIn at this
      cases q : PySem.W.clsIn K D with
      | none => rw [q] at this; cases this
      | some c => rfl
    have e2 : ((PySem.W.clsIn K D).isSome && PySem.W.typeIn K (.ref D) == some (.type "type")) = true := by rw [hc, t] <;> rfl
    show (if ((PySem.W.clsIn K D).isSome && PySem.W.typeIn K (.ref D) == some (.type "type")) = true then PySem.W.subIn K (.ref C) (.ref D) else none) = some b
    rw [if_pos e2]
    exact h
end My

/-! ### any(a list) in an except suite; lists of truths there -/
namespace My
open PySem PySem.Spec PyProof.Rows L2 HotX
section
variable {prog : Program} {w : World} {A : Around} {E : Value → Shared → Prop} {s : Shared}
theorem pyNext_list_end_hot {it l x1 : Addr} {i : Nat} {items : Array Value} {Q : Option Value → Shared → Prop} (hot : HotAt A x1 s.heap) (hne : x1 ≠ it)
    (hit : s.heap.IsListIter it l i) (hl : s.heap.IsList l items) (hx : items[i]? = none)
    (hQ : ∀ h', Heap.ExtBut it s.heap h' → Q none { s with heap := h' }) : wpAny (model prog w) A (pyNext (.ref it)) Q E s := by
  obtain ⟨o, ho, hc, hd⟩ := id hit
  obtain ⟨ol, hol, _, nl, hdl⟩ := hl
  obtain ⟨hh, o1, vs1, h1, d1, c1⟩ := hot
  unfold pyNext
  refine wpAny_bind (wpAny_attempt (wpAny_callSpecial?_slot (name := Str.ofString "__next__") hit.typeIs slot_listiter_next
    (wpAny_call_entry slot_listiter_next hit.typeIs entry_listiter_next ?_ (args_listiter_next _))))
  show wpAny _ _ (field (.ref it) 0 >>= _) _ _ s
  refine wpAny_bind (wpAny_field ho hd (x := .ref l) rfl ?_)
  show wpAny _ _ (if (Value.ref l == Value.none) = true then _ else _) _ _ s
  rw [if_neg (show ¬ ((Value.ref l == Value.none) = true) from Bool.false_ne_true)]
  show wpAny _ _ (field (.ref it) 1 >>= _) _ _ s
  refine wpAny_bind (wpAny_field ho hd (x := .int i 0) rfl ?_)
  show wpAny _ _ (seqItems? (.ref l) >>= _) _ _ s
  refine wpAny_bind (wpAny_seqItems hol hdl ?_)
  simp only [Int.toNat_natCast, hx]
  refine wpAny_bind (wpAny_rule (wpAny_bind (wpAny_setField ho hd (by simp) ?_)))
  show wpAny _ _ (newExc (.type "StopIteration") [] >>= _) _ _ _
  refine wpAny_bind ?_
  simp only [newExc, newTuple]
  refine wpAny_bind (wpAny_newObj_type ?_ (by size_fits))
  refine wpAny_bind (m := firstArgMember _ _) (wpAny_of_eq (a := Value.none) (by first | rfl | (simp only [firstArgMember]; rfl)) ?_)
  refine wpAny_newObj_type ?_ (by size_fits)
  have h1' : ∀ (o' : Obj) (f : Obj → Obj), (((s.heap.update it f).push o').get? x1 = some o1) := fun o' f => Heap.get?_push_of_some _ ((Heap.SameBut.update s.heap it f).extBut x1 o1 hne h1)
  refine raiseNew_hot ⟨hh, o1, vs1, Heap.get?_push_of_some _ (h1' _ _), d1, c1⟩ (Nat.ne_of_lt (Heap.lt_size (h1' _ _))) (Heap.get?_push_size _ rfl) rfl (by first | (simp; done) | (simp; omega) | (simp only [Array.size_append]; simp; omega)) ?_
  refine wpAny_bind (wpAny_isInstance (T := "StopIteration") (b := true) ⟨_, Heap.get?_update_self _ (Heap.get?_push_size _ rfl) rfl, rfl⟩ isSubtype_stop ?_)
  refine wpAny_pure (hQ _ fun b o nb e => ?_)
  have e2 := (Heap.SameBut.update s.heap it (Obj.mapFields (·.setIfInBounds 0 Value.none))).extBut b o nb e
  rw [Heap.get?_update_other _ _ (Nat.ne_of_gt (Heap.lt_size (Heap.get?_push_of_some _ e2)))]
  exact Heap.get?_push_of_some _ (Heap.get?_push_of_some _ e2)
/-- the object of a handled exception -/
def CtxAt (x1 : Addr) (h : Heap) : Prop := ∃ (o : Obj) (vs : Array Value), h.get? x1 = some o ∧ o.data = .fields vs ∧ vs[2]? = some .none
theorem walks_listH {x1 : Addr} (hh : A.handled = some (.ref x1)) (I ax : Addr) (hne : ax ≠ I) (hx : x1 ≠ I) (items : Array Value) :
    Walks prog w A I [I, ax, x1] [I] items.size (fun i v => items[i]? = some v) (fun i h => h.IsListIter I ax i ∧ h.IsList ax items ∧ CtxAt x1 h) where
  sub := fun b hb => by simp at hb; simp [hb]
  frame := fun _ _ _ st hk => ⟨st.1.at fun o e => hk I (by simp) o e, st.2.1.at fun o e => hk ax (by simp) o e, let ⟨o, vs, a, b, c⟩ := st.2.2; ⟨o, vs, hk x1 (by simp) o a, b, c⟩⟩
  item := fun i s Q E hi st hQ => by
    refine wpAny_pyNext_list_item st.1 st.2.1 (x := items[i]) (by simp [hi]) fun h' hit' hs' => ?_
    exact hQ _ h' s.toks (by simp [hi]) ⟨hit', st.2.1.extBut hs'.extBut hne, let ⟨o, vs, a, b, c⟩ := st.2.2; ⟨o, vs, hs'.extBut x1 o hx a, b, c⟩⟩ fun b o hb e => hs'.extBut b o (fun h => hb (by simp [h])) e
  done := fun s Q E st hQ => pyNext_list_end_hot ⟨hh, st.2.2⟩ hx st.1 st.2.1 (by simp) fun h' he' => hQ h' s.toks fun b o hb e => he' b o (fun h => hb (by simp [h])) e
  self := fun _ _ _ _ st hQ => wpAny_pyIter_listiter st.1 hQ
end
theorem cr_anyH {X : Cx} (hc : L2H.HotC X) : CallR X (.builtin "any") (rAny X.K) := by
  intro pins s σ H vs us Q I r h
  obtain ⟨a, bs, rfl, hs, q⟩ := h
  obtain ⟨its, rv, hl, _⟩ := I.list hs
  rw [Vals.ref1 r]
  have hb := rv.bls
  obtain ⟨x1, hh, hx⟩ := hc.at I
  refine call_any_walk (iter_any hl.isList fun s₂ e2 st hne => ?_)
  subst e2
  obtain ⟨o1, vs1, h1, d1, c1⟩ := hx
  have lx : x1 < s.heap.objs.size := Heap.lt_size h1
  refine ⟨_, _, _, _, _, _, _, rfl, walks_listH (A := X.A.in1) (x1 := x1) hh _ a hne (Nat.ne_of_lt lx) its.toArray, ⟨st.1, st.2, o1, vs1, Heap.get?_push_of_some _ h1, d1, c1⟩, truth_bools hb, fun h' tk hk => ?_⟩
  refine ⟨.bl _, H, I.kept fun b o eo => hk b o (fun hmem => ?_) (Heap.get?_push_of_some _ eo), ?_, q⟩
  · rcases List.mem_cons.mp hmem with e1 | hmem
    · exact absurd (e1 ▸ Heap.lt_size eo) (Nat.lt_irrefl _)
    · cases hmem
  · show Value.bool _ = Value.bool _
    rw [← L2.any_range, hb, List.size_toArray, List.length_map]
theorem cr_anyHK {X : Cx} {K : PySem.W.Frag} (hc : L2H.HotC X) (h : X.K = K) : CallR X (.builtin "any") (rAny K) := h ▸ cr_anyH hc
/-- a suite's context bears the exception, its context None -/
theorem hot_suite {X : Cx} {a : Addr} {oe : Obj} {cls : Value} {d : Option Addr} {pn : List (Addr × Obj)} (hz : L2N.Zn cls d oe) (hf : ∃ vs, oe.data = .fields vs) : L2H.HotC (X.suite a ((a, oe) :: pn)) := by
  obtain ⟨vs, e⟩ := hf
  exact ⟨(a, oe), ⟨rfl, vs, e, hz.2.2 vs e⟩, List.mem_cons_self⟩
end My
namespace L2
open PySem PySem.Spec PyProof.Rows
section
variable {P : Program} {w : World} {K : PySem.W.Frag} {mg : Str → Option Value} {base : Heap}
/-- as Fun.okX, what is raised has no context -/
theorem Fun.okN {x qual : Str} {st : Stmt} {f : Addr} {fd : FuncData} {N ps : List Str} {k : Nat} {sp : Sp} (F : Fun K x qual st f fd) (S : FnScope N ps (defScope st)) (len : ∀ vs H Q E, sp vs H Q E → vs.length = ps.length)
    (hbody : ∀ (cdv : Value) (A : Around) (outer : List Env) (s : Shared) (H : Hp) (vs : List V) (Q : VK) (E : XK), Room k (A.deeper (envOfC qual (defScope st) s.heap.objs.size f cdv)) → sp vs H Q E →
      ∃ t, PSs (cxOf (L2N.CX P w) P w K mg base N qual (defScope st) f cdv A outer s H E) (defBody st) t ∧ t { nx := fun _ H' => Q .non H', rt := Q } (start N vs) H) : FnOk P w K mg base (L2N.CX P w) (k + 1) f fd ps sp := by
  obtain ⟨oc, od, kV, doc, pm, an, cdv, ct, osl, rfl, lk, hcd⟩ := F.ex
  exact fn_of lk hcd S len fun A outer s H vs Q E hr hsp => hbody cdv A outer s H vs Q E hr hsp
end
end L2
namespace My
open PySem PySem.Spec PyProof.Rows L2
theorem takes0N {X : Cx} : L2N.Takes X (fun _ _ _ _ => False) := fun _ _ x => by
  obtain ⟨_, _, _, _, _, _, _, _, _, _, _, _, _, _, _, _, z⟩ := x
  exact z.elim
theorem passLN {X : Cx} : Passes (L2N.CX X.prog X.w) X E0 := fun _ _ _ _ _ _ _ h => by
  obtain ⟨_, _, _, _, _, _, _, _, _, _, _, _, z⟩ := h
  exact z.elim
end My

namespace My
open PySem PySem.Spec PyProof.Rows L2
def top (i : Nat) : Stmt := PySem.Challenge.pw_nestlaid_k20_whole_spots_of_grids.main.body.getD i (.Pass ⟨0, 0, 0, 0⟩)
abbrev s__wall : Stmt := top 0
abbrev N__wall : List Str := ["k"]
theorem sc__wall : FnScope N__wall ["k"] (defScope s__wall) := ⟨rfl, rfl, rfl, by decide +kernel, rfl, by decide +kernel, by decide +kernel⟩
abbrev s_NoText_init : Stmt := inClass (top 4) 0
abbrev N_NoText_init : List Str := ["self", "why", "line"]
theorem sc_NoText_init : FnScope N_NoText_init ["self", "why", "line"] (defScope s_NoText_init) := ⟨rfl, rfl, rfl, by decide +kernel, rfl, by decide +kernel, by decide +kernel⟩
abbrev s_is_whole : Stmt := top 12
abbrev N_is_whole : List Str := ["thing"]
theorem sc_is_whole : FnScope N_is_whole ["thing"] (defScope s_is_whole) := ⟨rfl, rfl, rfl, by decide +kernel, rfl, by decide +kernel, by decide +kernel⟩
abbrev s_is_count : Stmt := top 16
abbrev N_is_count : List Str := ["thing"]
theorem sc_is_count : FnScope N_is_count ["thing"] (defScope s_is_count) := ⟨rfl, rfl, rfl, by decide +kernel, rfl, by decide +kernel, by decide +kernel⟩
abbrev s_is_name : Stmt := top 17
abbrev N_is_name : List Str := ["thing", "sign"]
theorem sc_is_name : FnScope N_is_name ["thing"] (defScope s_is_name) := ⟨rfl, rfl, rfl, by decide +kernel, rfl, by decide +kernel, by decide +kernel⟩
abbrev s_is_share : Stmt := top 19
abbrev N_is_share : List Str := ["track"]
theorem sc_is_share : FnScope N_is_share ["track"] (defScope s_is_share) := ⟨rfl, rfl, rfl, by decide +kernel, rfl, by decide +kernel, by decide +kernel⟩
abbrev s_is_track : Stmt := top 20
abbrev N_is_track : List Str := ["thing"]
theorem sc_is_track : FnScope N_is_track ["thing"] (defScope s_is_track) := ⟨rfl, rfl, rfl, by decide +kernel, rfl, by decide +kernel, by decide +kernel⟩
abbrev s_are_tracks : Stmt := top 21
abbrev N_are_tracks : List Str := ["thing", "track"]
theorem sc_are_tracks : FnScope N_are_tracks ["thing"] (defScope s_are_tracks) := ⟨rfl, rfl, rfl, by decide +kernel, rfl, by decide +kernel, by decide +kernel⟩
abbrev s_is_stretch : Stmt := top 22
abbrev N_is_stretch : List Str := ["first", "many", "count"]
theorem sc_is_stretch : FnScope N_is_stretch ["first", "many", "count"] (defScope s_is_stretch) := ⟨rfl, rfl, rfl, by decide +kernel, rfl, by decide +kernel, by decide +kernel⟩
abbrev s_is_spot : Stmt := top 23
abbrev N_is_spot : List Str := ["thing", "columns", "rows"]
theorem sc_is_spot : FnScope N_is_spot ["thing", "columns", "rows"] (defScope s_is_spot) := ⟨rfl, rfl, rfl, by decide +kernel, rfl, by decide +kernel, by decide +kernel⟩
abbrev s_apart : Stmt := top 24
abbrev N_apart : List Str := ["one", "other", "aside"]
theorem sc_apart : FnScope N_apart ["one", "other"] (defScope s_apart) := ⟨rfl, rfl, rfl, by decide +kernel, rfl, by decide +kernel, by decide +kernel⟩
abbrev s_may_stand : Stmt := top 25
abbrev N_may_stand : List Str := ["spot", "spots", "columns", "rows", "one"]
theorem sc_may_stand : FnScope N_may_stand ["spot", "spots", "columns", "rows"] (defScope s_may_stand) := ⟨rfl, rfl, rfl, by decide +kernel, rfl, by decide +kernel, by decide +kernel⟩
abbrev s_are_spots : Stmt := top 26
abbrev N_are_spots : List Str := ["thing", "many", "columns", "rows", "at", "spot"]
theorem sc_are_spots : FnScope N_are_spots ["thing", "many", "columns", "rows"] (defScope s_are_spots) := ⟨rfl, rfl, rfl, by decide +kernel, rfl, by decide +kernel, by decide +kernel⟩
abbrev s_is_part : Stmt := top 31
abbrev N_is_part : List Str := ["size"]
theorem sc_is_part : FnScope N_is_part ["size"] (defScope s_is_part) := ⟨rfl, rfl, rfl, by decide +kernel, rfl, by decide +kernel, by decide +kernel⟩
abbrev s_is_tie : Stmt := top 32
abbrev N_is_tie : List Str := ["size"]
theorem sc_is_tie : FnScope N_is_tie ["size"] (defScope s_is_tie) := ⟨rfl, rfl, rfl, by decide +kernel, rfl, by decide +kernel, by decide +kernel⟩
abbrev s_is_size : Stmt := top 33
abbrev N_is_size : List Str := ["thing"]
theorem sc_is_size : FnScope N_is_size ["thing"] (defScope s_is_size) := ⟨rfl, rfl, rfl, by decide +kernel, rfl, by decide +kernel, by decide +kernel⟩
abbrev s_is_bound : Stmt := top 34
abbrev N_is_bound : List Str := ["thing"]
theorem sc_is_bound : FnScope N_is_bound ["thing"] (defScope s_is_bound) := ⟨rfl, rfl, rfl, by decide +kernel, rfl, by decide +kernel, by decide +kernel⟩
abbrev s_is_rims : Stmt := top 35
abbrev N_is_rims : List Str := ["thing", "rim"]
theorem sc_is_rims : FnScope N_is_rims ["thing"] (defScope s_is_rims) := ⟨rfl, rfl, rfl, by decide +kernel, rfl, by decide +kernel, by decide +kernel⟩
abbrev s_Style_init : Stmt := inClass (top 36) 0
abbrev N_Style_init : List Str := ["self", "wide", "high", "least_wide", "least_high", "most_wide", "most_high", "grow", "shrink", "rims", "stand", "sizes", "bounds", "one"]
theorem sc_Style_init : FnScope N_Style_init ["self", "wide", "high", "least_wide", "least_high", "most_wide", "most_high", "grow", "shrink", "rims", "stand"] (defScope s_Style_init) := ⟨rfl, rfl, rfl, by decide +kernel, rfl, by decide +kernel, by decide +kernel⟩
abbrev s_Style_eq : Stmt := inClass (top 36) 1
abbrev N_Style_eq : List Str := ["self", "other"]
theorem sc_Style_eq : FnScope N_Style_eq ["self", "other"] (defScope s_Style_eq) := ⟨rfl, rfl, rfl, by decide +kernel, rfl, by decide +kernel, by decide +kernel⟩
abbrev s_Style_repr : Stmt := inClass (top 36) 2
abbrev N_Style_repr : List Str := ["self"]
theorem sc_Style_repr : FnScope N_Style_repr ["self"] (defScope s_Style_repr) := ⟨rfl, rfl, rfl, by decide +kernel, rfl, by decide +kernel, by decide +kernel⟩
abbrev s_told_fields : Stmt := top 37
abbrev N_told_fields : List Str := ["style"]
theorem sc_told_fields : FnScope N_told_fields ["style"] (defScope s_told_fields) := ⟨rfl, rfl, rfl, by decide +kernel, rfl, by decide +kernel, by decide +kernel⟩
abbrev s_shown_fields : Stmt := top 38
abbrev N_shown_fields : List Str := ["style", "name", "value", "usual"]
theorem sc_shown_fields : FnScope N_shown_fields ["style"] (defScope s_shown_fields) := ⟨rfl, rfl, rfl, by decide +kernel, rfl, by decide +kernel, by decide +kernel⟩
abbrev s_checked_name : Stmt := top 40
abbrev N_checked_name : List Str := ["name"]
theorem sc_checked_name : FnScope N_checked_name ["name"] (defScope s_checked_name) := ⟨rfl, rfl, rfl, by decide +kernel, rfl, by decide +kernel, by decide +kernel⟩
abbrev s_checked_style : Stmt := top 41
abbrev N_checked_style : List Str := ["style"]
theorem sc_checked_style : FnScope N_checked_style ["style"] (defScope s_checked_style) := ⟨rfl, rfl, rfl, by decide +kernel, rfl, by decide +kernel, by decide +kernel⟩
abbrev s_checked_boxes : Stmt := top 42
abbrev N_checked_boxes : List Str := ["boxes", "box"]
theorem sc_checked_boxes : FnScope N_checked_boxes ["boxes"] (defScope s_checked_boxes) := ⟨rfl, rfl, rfl, by decide +kernel, rfl, by decide +kernel, by decide +kernel⟩
abbrev s_checked_gap : Stmt := top 43
abbrev N_checked_gap : List Str := ["gap"]
theorem sc_checked_gap : FnScope N_checked_gap ["gap"] (defScope s_checked_gap) := ⟨rfl, rfl, rfl, by decide +kernel, rfl, by decide +kernel, by decide +kernel⟩
abbrev s_checked_stands : Stmt := top 44
abbrev N_checked_stands : List Str := ["stands"]
theorem sc_checked_stands : FnScope N_checked_stands ["stands"] (defScope s_checked_stands) := ⟨rfl, rfl, rfl, by decide +kernel, rfl, by decide +kernel, by decide +kernel⟩
abbrev s_Box_held_boxes : Stmt := inClass (top 45) 0
abbrev N_Box_held_boxes : List Str := ["self"]
theorem sc_Box_held_boxes : FnScope N_Box_held_boxes ["self"] (defScope s_Box_held_boxes) := ⟨rfl, rfl, rfl, by decide +kernel, rfl, by decide +kernel, by decide +kernel⟩
abbrev s_Box_place_of : Stmt := inClass (top 45) 1
abbrev N_Box_place_of : List Str := ["self", "name"]
theorem sc_Box_place_of : FnScope N_Box_place_of ["self", "name"] (defScope s_Box_place_of) := ⟨rfl, rfl, rfl, by decide +kernel, rfl, by decide +kernel, by decide +kernel⟩
abbrev s_Box_kind : Stmt := inClass (top 45) 2
abbrev N_Box_kind : List Str := ["self"]
theorem sc_Box_kind : FnScope N_Box_kind ["self"] (defScope s_Box_kind) := ⟨rfl, rfl, rfl, by decide +kernel, rfl, by decide +kernel, by decide +kernel⟩
abbrev s_Box_own_fields : Stmt := inClass (top 45) 3
abbrev N_Box_own_fields : List Str := ["self"]
theorem sc_Box_own_fields : FnScope N_Box_own_fields ["self"] (defScope s_Box_own_fields) := ⟨rfl, rfl, rfl, by decide +kernel, rfl, by decide +kernel, by decide +kernel⟩
abbrev s_Box_record : Stmt := inClass (top 45) 4
abbrev N_Box_record : List Str := ["self", "fields", "names", "name", "value", "usual", "box"]
theorem sc_Box_record : FnScope N_Box_record ["self"] (defScope s_Box_record) := ⟨rfl, rfl, rfl, by decide +kernel, rfl, by decide +kernel, by decide +kernel⟩
abbrev s_Box_eq : Stmt := inClass (top 45) 5
abbrev N_Box_eq : List Str := ["self", "other"]
theorem sc_Box_eq : FnScope N_Box_eq ["self", "other"] (defScope s_Box_eq) := ⟨rfl, rfl, rfl, by decide +kernel, rfl, by decide +kernel, by decide +kernel⟩
abbrev s_Words_init : Stmt := inClass (top 46) 0
abbrev N_Words_init : List Str := ["self", "name", "text", "style"]
theorem sc_Words_init : FnScope N_Words_init ["self", "name", "text", "style"] (defScope s_Words_init) := ⟨rfl, rfl, rfl, by decide +kernel, rfl, by decide +kernel, by decide +kernel⟩
abbrev s_Words_kind : Stmt := inClass (top 46) 1
abbrev N_Words_kind : List Str := ["self"]
theorem sc_Words_kind : FnScope N_Words_kind ["self"] (defScope s_Words_kind) := ⟨rfl, rfl, rfl, by decide +kernel, rfl, by decide +kernel, by decide +kernel⟩
abbrev s_Words_own_fields : Stmt := inClass (top 46) 2
abbrev N_Words_own_fields : List Str := ["self"]
theorem sc_Words_own_fields : FnScope N_Words_own_fields ["self"] (defScope s_Words_own_fields) := ⟨rfl, rfl, rfl, by decide +kernel, rfl, by decide +kernel, by decide +kernel⟩
abbrev s_Words_with_style : Stmt := inClass (top 46) 3
abbrev N_Words_with_style : List Str := ["self", "style"]
theorem sc_Words_with_style : FnScope N_Words_with_style ["self", "style"] (defScope s_Words_with_style) := ⟨rfl, rfl, rfl, by decide +kernel, rfl, by decide +kernel, by decide +kernel⟩
abbrev s_Words_with_text : Stmt := inClass (top 46) 4
abbrev N_Words_with_text : List Str := ["self", "text"]
theorem sc_Words_with_text : FnScope N_Words_with_text ["self", "text"] (defScope s_Words_with_text) := ⟨rfl, rfl, rfl, by decide +kernel, rfl, by decide +kernel, by decide +kernel⟩
abbrev s_Grid_init : Stmt := inClass (top 47) 0
abbrev N_Grid_init : List Str := ["self", "name", "boxes", "spots", "columns", "rows", "gap", "lane", "stands", "style"]
theorem sc_Grid_init : FnScope N_Grid_init ["self", "name", "boxes", "spots", "columns", "rows", "gap", "lane", "stands", "style"] (defScope s_Grid_init) := ⟨rfl, rfl, rfl, by decide +kernel, rfl, by decide +kernel, by decide +kernel⟩
abbrev s_Grid_held_boxes : Stmt := inClass (top 47) 1
abbrev N_Grid_held_boxes : List Str := ["self"]
theorem sc_Grid_held_boxes : FnScope N_Grid_held_boxes ["self"] (defScope s_Grid_held_boxes) := ⟨rfl, rfl, rfl, by decide +kernel, rfl, by decide +kernel, by decide +kernel⟩
abbrev s_Grid_kind : Stmt := inClass (top 47) 2
abbrev N_Grid_kind : List Str := ["self"]
theorem sc_Grid_kind : FnScope N_Grid_kind ["self"] (defScope s_Grid_kind) := ⟨rfl, rfl, rfl, by decide +kernel, rfl, by decide +kernel, by decide +kernel⟩
abbrev s_Grid_own_fields : Stmt := inClass (top 47) 3
abbrev N_Grid_own_fields : List Str := ["self"]
theorem sc_Grid_own_fields : FnScope N_Grid_own_fields ["self"] (defScope s_Grid_own_fields) := ⟨rfl, rfl, rfl, by decide +kernel, rfl, by decide +kernel, by decide +kernel⟩
abbrev s_Grid_remade : Stmt := inClass (top 47) 4
abbrev N_Grid_remade : List Str := ["self", "boxes", "spots", "style"]
theorem sc_Grid_remade : FnScope N_Grid_remade ["self", "boxes", "spots", "style"] (defScope s_Grid_remade) := ⟨rfl, rfl, rfl, by decide +kernel, rfl, by decide +kernel, by decide +kernel⟩
abbrev s_Grid_with_style : Stmt := inClass (top 47) 5
abbrev N_Grid_with_style : List Str := ["self", "style"]
theorem sc_Grid_with_style : FnScope N_Grid_with_style ["self", "style"] (defScope s_Grid_with_style) := ⟨rfl, rfl, rfl, by decide +kernel, rfl, by decide +kernel, by decide +kernel⟩
abbrev s_Grid_with_boxes : Stmt := inClass (top 47) 6
abbrev N_Grid_with_boxes : List Str := ["self", "boxes", "spots"]
theorem sc_Grid_with_boxes : FnScope N_Grid_with_boxes ["self", "boxes", "spots"] (defScope s_Grid_with_boxes) := ⟨rfl, rfl, rfl, by decide +kernel, rfl, by decide +kernel, by decide +kernel⟩
abbrev s_w_cell_at : Stmt := top 49
abbrev N_w_cell_at : List Str := ["_law_script", "_law_k"]
theorem sc_w_cell_at : FnScope N_w_cell_at ["_law_script", "_law_k"] (defScope s_w_cell_at) := ⟨rfl, rfl, rfl, by decide +kernel, rfl, by decide +kernel, by decide +kernel⟩
abbrev s_w_mixed : Stmt := top 50
abbrev N_w_mixed : List Str := ["_law_cell", "_law_k", "_law_number"]
theorem sc_w_mixed : FnScope N_w_mixed ["_law_cell", "_law_k"] (defScope s_w_mixed) := ⟨rfl, rfl, rfl, by decide +kernel, rfl, by decide +kernel, by decide +kernel⟩
abbrev s_w_source : Stmt := top 51
abbrev N_w_source : List Str := ["_law_cell"]
theorem sc_w_source : FnScope N_w_source ["_law_cell"] (defScope s_w_source) := ⟨rfl, rfl, rfl, by decide +kernel, rfl, by decide +kernel, by decide +kernel⟩
abbrev s_w_next : Stmt := top 52
abbrev N_w_next : List Str := ["_law_source_here", "_law_many", "_law_found"]
theorem sc_w_next : FnScope N_w_next ["_law_source_here", "_law_many"] (defScope s_w_next) := ⟨rfl, rfl, rfl, by decide +kernel, rfl, by decide +kernel, by decide +kernel⟩
abbrev s_w_free : Stmt := top 53
abbrev N_w_free : List Str := ["_law_source_here", "_law_gone", "_law_across", "_law_low", "_law_free_here", "_law_x", "_law_y", "_law_many", "_law_k"]
theorem sc_w_free : FnScope N_w_free ["_law_source_here", "_law_gone", "_law_across", "_law_low"] (defScope s_w_free) := ⟨rfl, rfl, rfl, by decide +kernel, rfl, by decide +kernel, by decide +kernel⟩
abbrev s_w_tall : Stmt := top 54
abbrev N_w_tall : List Str := ["_law_source_here", "_law_gone", "_law_low", "_law_plot", "_law_x", "_law_y", "_law_many", "_law_deep", "_law_k"]
theorem sc_w_tall : FnScope N_w_tall ["_law_source_here", "_law_gone", "_law_low", "_law_plot"] (defScope s_w_tall) := ⟨rfl, rfl, rfl, by decide +kernel, rfl, by decide +kernel, by decide +kernel⟩
abbrev s_w_apart : Stmt := top 55
abbrev N_w_apart : List Str := ["_law_source_here", "_law_count", "_law_across", "_law_low", "_law_gone", "_law_found", "_law_k", "_law_plot"]
theorem sc_w_apart : FnScope N_w_apart ["_law_source_here", "_law_count", "_law_across", "_law_low"] (defScope s_w_apart) := ⟨rfl, rfl, rfl, by decide +kernel, rfl, by decide +kernel, by decide +kernel⟩
abbrev s_w_any : Stmt := top 56
abbrev N_w_any : List Str := ["_law_source_here", "_law_count", "_law_across", "_law_low", "_law_found", "_law_k", "_law_x", "_law_y"]
theorem sc_w_any : FnScope N_w_any ["_law_source_here", "_law_count", "_law_across", "_law_low"] (defScope s_w_any) := ⟨rfl, rfl, rfl, by decide +kernel, rfl, by decide +kernel, by decide +kernel⟩
abbrev s_w_spoilt : Stmt := top 57
abbrev N_w_spoilt : List Str := ["_law_source_here", "_law_cells", "_law_across", "_law_low", "_law_at", "_law_x", "_law_y", "_law_many", "_law_deep", "_law_other", "_law_some", "_law_one"]
theorem sc_w_spoilt : FnScope N_w_spoilt ["_law_source_here", "_law_cells", "_law_across", "_law_low"] (defScope s_w_spoilt) := ⟨rfl, rfl, rfl, by decide +kernel, rfl, by decide +kernel, by decide +kernel⟩
abbrev s_w_is_whole : Stmt := top 58
abbrev N_w_is_whole : List Str := ["_law_thing"]
theorem sc_w_is_whole : FnScope N_w_is_whole ["_law_thing"] (defScope s_w_is_whole) := ⟨rfl, rfl, rfl, by decide +kernel, rfl, by decide +kernel, by decide +kernel⟩
abbrev s_w_stands : Stmt := top 59
abbrev N_w_stands : List Str := ["_law_plot", "_law_across", "_law_low", "_law_x", "_law_y", "_law_many", "_law_deep", "_law_part"]
theorem sc_w_stands : FnScope N_w_stands ["_law_plot", "_law_across", "_law_low"] (defScope s_w_stands) := ⟨rfl, rfl, rfl, by decide +kernel, rfl, by decide +kernel, by decide +kernel⟩
abbrev s_w_good : Stmt := top 60
abbrev N_w_good : List Str := ["_law_cells", "_law_count", "_law_across", "_law_low", "_law_seen", "_law_x", "_law_y", "_law_many", "_law_deep", "_law_j", "_law_k", "_law_plot"]
theorem sc_w_good : FnScope N_w_good ["_law_cells", "_law_count", "_law_across", "_law_low"] (defScope s_w_good) := ⟨rfl, rfl, rfl, by decide +kernel, rfl, by decide +kernel, by decide +kernel⟩
abbrev s_w_track : Stmt := top 61
abbrev N_w_track : List Str := ["_law_source_here"]
theorem sc_w_track : FnScope N_w_track ["_law_source_here"] (defScope s_w_track) := ⟨rfl, rfl, rfl, by decide +kernel, rfl, by decide +kernel, by decide +kernel⟩
abbrev s_w_made : Stmt := top 62
abbrev N_w_made : List Str := ["_law_boxes", "_law_cells", "_law_tops", "_law_sides", "_law_grid", "e", "_law_marks"]
theorem sc_w_made : FnScope N_w_made ["_law_boxes", "_law_cells", "_law_tops", "_law_sides"] (defScope s_w_made) := ⟨rfl, rfl, rfl, by decide +kernel, rfl, by decide +kernel, by decide +kernel⟩
abbrev s_w_right : Stmt := top 63
abbrev N_w_right : List Str := ["_law_source_here", "_law_cells", "_law_count", "_law_across", "_law_low", "_law_tops", "_law_sides", "_law_boxes", "_law_handed", "_law_word", "_law_found", "_law_k", "_law_plot"]
theorem sc_w_right : FnScope N_w_right ["_law_source_here", "_law_cells", "_law_count", "_law_across", "_law_low"] (defScope s_w_right) := ⟨rfl, rfl, rfl, by decide +kernel, rfl, by decide +kernel, by decide +kernel⟩
abbrev s_law : Stmt := top 64
abbrev N_law : List Str := ["_law_script", "_law_k", "_law_source_here", "_law_way", "_law_wrong", "_law_across", "_law_low", "_law_count", "_law_cells"]
theorem sc_law : FnScope N_law ["_law_script"] (defScope s_law) := ⟨rfl, rfl, rfl, by decide +kernel, rfl, by decide +kernel, by decide +kernel⟩
structure Tx (K : PySem.W.Frag) (mg : Str → Option Value) where
  U_NO_RIMS : Addr
  U_SIDES : Addr
  U_STANDS : Addr
  U_LETTERS : Value
  U_LONGEST : Value
  c_Style : Cl K mg "Style"
  n_Style_wide : PySem.W.findIn K (.ref c_Style.C) "wide" = some none
  n_Style_high : PySem.W.findIn K (.ref c_Style.C) "high" = some none
  n_Style_least_wide : PySem.W.findIn K (.ref c_Style.C) "least_wide" = some none
  n_Style_least_high : PySem.W.findIn K (.ref c_Style.C) "least_high" = some none
  n_Style_most_wide : PySem.W.findIn K (.ref c_Style.C) "most_wide" = some none
  n_Style_most_high : PySem.W.findIn K (.ref c_Style.C) "most_high" = some none
  n_Style_grow : PySem.W.findIn K (.ref c_Style.C) "grow" = some none
  n_Style_shrink : PySem.W.findIn K (.ref c_Style.C) "shrink" = some none
  n_Style_rims : PySem.W.findIn K (.ref c_Style.C) "rims" = some none
  n_Style_stand : PySem.W.findIn K (.ref c_Style.C) "stand" = some none
  c_Box : Cl K mg "Box"
  c_Words : Cl K mg "Words"
  n_Words_name : PySem.W.findIn K (.ref c_Words.C) "name" = some none
  n_Words_text : PySem.W.findIn K (.ref c_Words.C) "text" = some none
  n_Words_style : PySem.W.findIn K (.ref c_Words.C) "style" = some none
  c_Grid : Cl K mg "Grid"
  n_Grid_name : PySem.W.findIn K (.ref c_Grid.C) "name" = some none
  n_Grid_boxes : PySem.W.findIn K (.ref c_Grid.C) "boxes" = some none
  n_Grid_columns : PySem.W.findIn K (.ref c_Grid.C) "columns" = some none
  n_Grid_rows : PySem.W.findIn K (.ref c_Grid.C) "rows" = some none
  n_Grid_spots : PySem.W.findIn K (.ref c_Grid.C) "spots" = some none
  n_Grid_gap : PySem.W.findIn K (.ref c_Grid.C) "gap" = some none
  n_Grid_lane : PySem.W.findIn K (.ref c_Grid.C) "lane" = some none
  n_Grid_stands : PySem.W.findIn K (.ref c_Grid.C) "stands" = some none
  n_Grid_style : PySem.W.findIn K (.ref c_Grid.C) "style" = some none
  d__wall : Df K mg "_wall" s__wall ["k"]
  d_is_whole : Df K mg "is_whole" s_is_whole ["thing"]
  d_is_count : Df K mg "is_count" s_is_count ["thing"]
  d_is_name : Df K mg "is_name" s_is_name ["thing"]
  d_is_share : Df K mg "is_share" s_is_share ["track"]
  d_is_track : Df K mg "is_track" s_is_track ["thing"]
  d_are_tracks : Df K mg "are_tracks" s_are_tracks ["thing"]
  d_is_stretch : Df K mg "is_stretch" s_is_stretch ["first", "many", "count"]
  d_is_spot : Df K mg "is_spot" s_is_spot ["thing", "columns", "rows"]
  d_apart : Df K mg "apart" s_apart ["one", "other"]
  d_may_stand : Df K mg "may_stand" s_may_stand ["spot", "spots", "columns", "rows"]
  d_are_spots : Df K mg "are_spots" s_are_spots ["thing", "many", "columns", "rows"]
  d_is_part : Df K mg "is_part" s_is_part ["size"]
  d_is_tie : Df K mg "is_tie" s_is_tie ["size"]
  d_is_size : Df K mg "is_size" s_is_size ["thing"]
  d_is_bound : Df K mg "is_bound" s_is_bound ["thing"]
  d_is_rims : Df K mg "is_rims" s_is_rims ["thing"]
  d_Style_init : Ini K "Style.__init__" s_Style_init c_Style.C [("wide", .non), ("high", .non), ("least_wide", .non), ("least_high", .non), ("most_wide", .non), ("most_high", .non), ("grow", .int 0), ("shrink", .int 1), ("rims", .ref U_NO_RIMS), ("stand", .non)]
  d_told_fields : Df K mg "told_fields" s_told_fields ["style"]
  d_shown_fields : Df K mg "shown_fields" s_shown_fields ["style"]
  d_checked_name : Df K mg "checked_name" s_checked_name ["name"]
  d_checked_style : Df K mg "checked_style" s_checked_style ["style"]
  d_checked_boxes : Df K mg "checked_boxes" s_checked_boxes ["boxes"]
  d_checked_gap : Df K mg "checked_gap" s_checked_gap ["gap"]
  d_checked_stands : Df K mg "checked_stands" s_checked_stands ["stands"]
  d_Words_init : Ini K "Words.__init__" s_Words_init c_Words.C [("style", .non)]
  d_Grid_init : Ini K "Grid.__init__" s_Grid_init c_Grid.C [("gap", .int 0), ("lane", .int 0), ("stands", .str (Str.ofString "stretch")), ("style", .non)]
  d_w_cell_at : Df K mg "_law_cell_at" s_w_cell_at ["_law_script", "_law_k"]
  d_w_mixed : Df K mg "_law_mixed" s_w_mixed ["_law_cell", "_law_k"]
  d_w_source : Df K mg "_law_source" s_w_source ["_law_cell"]
  d_w_next : Df K mg "_law_next" s_w_next ["_law_source_here", "_law_many"]
  d_w_free : Df K mg "_law_free" s_w_free ["_law_source_here", "_law_gone", "_law_across", "_law_low"]
  d_w_tall : Df K mg "_law_tall" s_w_tall ["_law_source_here", "_law_gone", "_law_low", "_law_plot"]
  d_w_apart : Df K mg "_law_apart" s_w_apart ["_law_source_here", "_law_count", "_law_across", "_law_low"]
  d_w_any : Df K mg "_law_any" s_w_any ["_law_source_here", "_law_count", "_law_across", "_law_low"]
  d_w_spoilt : Df K mg "_law_spoilt" s_w_spoilt ["_law_source_here", "_law_cells", "_law_across", "_law_low"]
  d_w_is_whole : Df K mg "_law_is_whole" s_w_is_whole ["_law_thing"]
  d_w_stands : Df K mg "_law_stands" s_w_stands ["_law_plot", "_law_across", "_law_low"]
  d_w_good : Df K mg "_law_good" s_w_good ["_law_cells", "_law_count", "_law_across", "_law_low"]
  d_w_track : Df K mg "_law_track" s_w_track ["_law_source_here"]
  d_w_made : Df K mg "_law_made" s_w_made ["_law_boxes", "_law_cells", "_law_tops", "_law_sides"]
  d_w_right : Df K mg "_law_right" s_w_right ["_law_source_here", "_law_cells", "_law_count", "_law_across", "_law_low"]
  d_law : Df K mg "law" s_law ["_law_script"]
  b_ValueError : mg "ValueError" = none
  b_all : mg "all" = none
  b_any : mg "any" = none
  b_bool : mg "bool" = none
  b_enumerate : mg "enumerate" = none
  b_int : mg "int" = none
  b_isinstance : mg "isinstance" = none
  b_len : mg "len" = none
  b_list : mg "list" = none
  b_max : mg "max" = none
  b_min : mg "min" = none
  b_range : mg "range" = none
  b_str : mg "str" = none
  b_tuple : mg "tuple" = none
  v_NO_RIMS : mg "NO_RIMS" = some (.ref U_NO_RIMS)
  v_SIDES : mg "SIDES" = some (.ref U_SIDES)
  v_STANDS : mg "STANDS" = some (.ref U_STANDS)
  v_LETTERS : mg "LETTERS" = some (U_LETTERS)
  v_LONGEST : mg "LONGEST" = some (U_LONGEST)
  t_NO_RIMS : ∀ H, SqT K H U_NO_RIMS [.int 0, .int 0, .int 0, .int 0]
  t_SIDES : ∀ H, SqT K H U_SIDES [.str (Str.ofString "wide"), .str (Str.ofString "tall")]
  t_STANDS : ∀ H, SqT K H U_STANDS [.str (Str.ofString "start"), .str (Str.ofString "end"), .str (Str.ofString "middle"), .str (Str.ofString "stretch"), .str (Str.ofString "base")]
  r_LETTERS : RelV (.str (Str.ofString "abcdefghijklmnopqrstuvwxyz")) U_LETTERS
  r_LONGEST : RelV (.int 8) U_LONGEST
  e_NestError : Ex K mg "NestError"
  e_NoSpot : Ex K mg "NoSpot"
  r_NoSpot : PySem.W.subIn K (.ref e_NoSpot.C) (.ref e_NestError.C) = some true
  s_NoSpot : PySem.W.subIn K (.ref e_NoSpot.C) (.ref e_NoSpot.C) = some true
  v_NoSpot : PySem.W.subIn K (.ref e_NoSpot.C) (.type "ValueError") = some true
  e_NoBox : Ec K mg "NoBox"
  i_NoBox : PySem.W.subIn K (.ref e_NoSpot.C) (.ref e_NoBox.C) = some false
  e_NoTrack : Ec K mg "NoTrack"
  i_NoTrack : PySem.W.subIn K (.ref e_NoSpot.C) (.ref e_NoTrack.C) = some false
  e_NoNumber : Ec K mg "NoNumber"
  i_NoNumber : PySem.W.subIn K (.ref e_NoSpot.C) (.ref e_NoNumber.C) = some false
  e_NoStyle : Ec K mg "NoStyle"
  i_NoStyle : PySem.W.subIn K (.ref e_NoSpot.C) (.ref e_NoStyle.C) = some false
  ww : PySem.W.subIn K (.ref c_Words.C) (.ref c_Words.C) = some true
  wb : PySem.W.subIn K (.ref c_Words.C) (.ref c_Box.C) = some true
  bt : PySem.W.typeIn K (.ref c_Box.C) = some (.type "type")
  wc : PySem.W.findIn K (.ref c_Words.C) "__class__" = some (some (.builtin "object.__class__"))
  wg : PySem.W.specialIn K (.builtin "object.__class__") "__get__" = some (some (.builtin "getset_descriptor.__get__"))
  wt : PySem.W.takesIn K (.builtin "object.__class__") = some true
  wm : PySem.W.mroIn K c_Words.C (.type "object") = some true
end My
/-! ### styles: told values, fields, alike -/
namespace My
open PySem L2
abbrev sX (s : String) : V := .str (Str.ofString s)
def lettersL : List Nat := (Str.ofString "abcdefghijklmnopqrstuvwxyz").cps.toList
def NameOk (l : List Nat) : Prop := 1 ≤ l.length ∧ l.length ≤ 8 ∧ ∀ c ∈ l, c ∈ lettersL
inductive SzAt (H : Hp) : V → Prop
  | non : SzAt H .non
  | cells (n : Nat) : SzAt H (.int (n : Int))
  | part (a : Addr) (n : Nat) (h : H a = some (.tup [sX "part", .int (n : Int)])) : SzAt H (.ref a)
  | tie (a : Addr) (l : List Nat) (sd : String) (m : Int) (hl : NameOk l) (hs : sd = "wide" ∨ sd = "tall") (h : H a = some (.tup [sX "as", .str (sO l), sX sd, .int m])) : SzAt H (.ref a)
def BdAt (v : V) : Prop := v = .non ∨ ∃ n : Nat, v = .int (n : Int)
def CtAt (v : V) : Prop := ∃ n : Nat, v = .int (n : Int)
def RmAt (K : PySem.W.Frag) (H : Hp) (v : V) : Prop := ∃ (a : Addr) (n0 n1 n2 n3 : Nat), v = .ref a ∧ SqT K H a [.int (n0 : Int), .int (n1 : Int), .int (n2 : Int), .int (n3 : Int)]
def stands5 : List String := ["start", "end", "middle", "stretch", "base"]
def StAt (v : V) : Prop := v = .non ∨ ∃ s ∈ stands5, v = sX s
theorem SzAt.same {H H' : Hp} {v : V} (h : SzAt H v) (s : Same H H') : SzAt H' v := by
  cases h with
  | non => exact .non
  | cells n => exact .cells n
  | part a n h => exact .part a n (s _ _ h)
  | tie a l sd m hl hs h => exact .tie a l sd m hl hs (s _ _ h)
/-- a tuple stays where a list is changed -/
theorem tup_but {H H' : Hp} {p a : Addr} {xs zs : List V} (b : But p H H') (hp : H p = some (.lst zs)) (h : H a = some (.tup xs)) : H' a = some (.tup xs) := b.app (by rintro rfl; rw [hp] at h; cases h) h
theorem SzAt.but {H H' : Hp} {v : V} {p : Addr} {zs : List V} (h : SzAt H v) (b : But p H H') (hp : H p = some (.lst zs)) : SzAt H' v := by
  cases h with
  | non => exact .non
  | cells n => exact .cells n
  | part a n h => exact .part a n (tup_but b hp h)
  | tie a l sd m hl hs h => exact .tie a l sd m hl hs (tup_but b hp h)
theorem RmAt.same {K : PySem.W.Frag} {H H' : Hp} {v : V} (h : RmAt K H v) (s : Same H H') : RmAt K H' v := let ⟨a, n0, n1, n2, n3, e, g⟩ := h; ⟨a, n0, n1, n2, n3, e, Same.seqT s g⟩
theorem seqT_but {K : PySem.W.Frag} {H H' : Hp} {p a : Addr} {xs zs : List V} (b : But p H H') (hp : H p = some (.lst zs)) (h : SqT K H a xs) : SqT K H' a xs := by
  rcases h with (h | ⟨o, h⟩) | h
  · exact .inl (.inl (tup_but b hp h))
  · exact .inl (.inr ⟨o, b.app (by rintro rfl; rw [hp] at h; cases h) h⟩)
  · exact .inr h
theorem RmAt.but {K : PySem.W.Frag} {H H' : Hp} {v : V} {p : Addr} {zs : List V} (h : RmAt K H v) (b : But p H H') (hp : H p = some (.lst zs)) : RmAt K H' v := let ⟨a, n0, n1, n2, n3, e, g⟩ := h; ⟨a, n0, n1, n2, n3, e, seqT_but b hp g⟩
theorem RmAt.of {K : PySem.W.Frag} {H : Hp} {a : Addr} {n0 n1 n2 n3 : Nat} (h : H a = some (.tup [.int (n0 : Int), .int (n1 : Int), .int (n2 : Int), .int (n3 : Int)])) : RmAt K H (.ref a) := ⟨a, n0, n1, n2, n3, rfl, sqT h⟩
/-- the fields of a style as its __init__ lays them -/
def styF (w h lw lh mw mh g s r st : V) : List (Str × V) :=
  [("wide", w), ("high", h), ("least_wide", lw), ("least_high", lh), ("most_wide", mw), ("most_high", mh), ("grow", g), ("shrink", s), ("rims", r), ("stand", st)]
/-- all ten values good -/
structure ValsOk (K : PySem.W.Frag) (H : Hp) (w h lw lh mw mh g s r st : V) : Prop where
  w : SzAt H w
  h : SzAt H h
  lw : BdAt lw
  lh : BdAt lh
  mw : BdAt mw
  mh : BdAt mh
  g : CtAt g
  s : CtAt s
  r : RmAt K H r
  st : StAt st
theorem ValsOk.same {K : PySem.W.Frag} {H H' : Hp} {w h lw lh mw mh g s r st : V} (v : ValsOk K H w h lw lh mw mh g s r st) (m : Same H H') : ValsOk K H' w h lw lh mw mh g s r st := ⟨v.w.same m, v.h.same m, v.lw, v.lh, v.mw, v.mh, v.g, v.s, v.r.same m, v.st⟩
/-! #### alike -/
def FlAt (v : V) : Prop := (∃ i, v = .int i) ∨ ∃ s, v = .str s
def AlkAt (K : PySem.W.Frag) (H : Hp) (u v : V) : Prop := (u = v ∧ (v = .non ∨ FlAt v)) ∨ ∃ (a b : Addr) (xs : List V), u = .ref a ∧ v = .ref b ∧ SqT K H a xs ∧ H b = some (.tup xs) ∧ (∀ x ∈ xs, FlAt x) ∧ xs.length ≤ 10
theorem AlkAt.same {K : PySem.W.Frag} {H H' : Hp} {u v : V} (h : AlkAt K H u v) (s : Same H H') : AlkAt K H' u v := h.imp id fun ⟨a, b, xs, e1, e2, h1, h2, h3, h4⟩ => ⟨a, b, xs, e1, e2, Same.seqT s h1, s _ _ h2, h3, h4⟩
theorem AlkAt.but {K : PySem.W.Frag} {H H' : Hp} {u v : V} {p : Addr} {zs : List V} (h : AlkAt K H u v) (b : But p H H') (hp : H p = some (.lst zs)) : AlkAt K H' u v := h.imp id fun ⟨a, c, xs, e1, e2, h1, h2, h3, h4⟩ => ⟨a, c, xs, e1, e2, seqT_but b hp h1, tup_but b hp h2, h3, h4⟩
theorem SzAt.alk {K : PySem.W.Frag} {H : Hp} {v : V} (h : SzAt H v) : AlkAt K H v v := by
  cases h with
  | non => exact .inl ⟨rfl, .inl rfl⟩
  | cells n => exact .inl ⟨rfl, .inr (.inl ⟨_, rfl⟩)⟩
  | part a n h => exact .inr ⟨a, a, _, rfl, rfl, sqT h, h, fun x hx => by
      rcases List.mem_cons.mp hx with rfl | hx
      · exact .inr ⟨_, rfl⟩
      · rw [List.mem_singleton.mp hx]; exact .inl ⟨_, rfl⟩, Nat.le_of_ble_eq_true rfl⟩
  | tie a l sd m hl hs h => exact .inr ⟨a, a, _, rfl, rfl, sqT h, h, fun x hx => by
      rcases List.mem_cons.mp hx with rfl | hx
      · exact .inr ⟨_, rfl⟩
      rcases List.mem_cons.mp hx with rfl | hx
      · exact .inr ⟨_, rfl⟩
      rcases List.mem_cons.mp hx with rfl | hx
      · exact .inr ⟨_, rfl⟩
      · rw [List.mem_singleton.mp hx]; exact .inl ⟨_, rfl⟩, Nat.le_of_ble_eq_true rfl⟩
theorem BdAt.alk {K : PySem.W.Frag} {H : Hp} {v : V} (h : BdAt v) : AlkAt K H v v := by
  rcases h with rfl | ⟨n, rfl⟩
  · exact .inl ⟨rfl, .inl rfl⟩
  · exact .inl ⟨rfl, .inr (.inl ⟨_, rfl⟩)⟩
theorem CtAt.alk {K : PySem.W.Frag} {H : Hp} {v : V} (h : CtAt v) : AlkAt K H v v := by
  obtain ⟨n, rfl⟩ := h
  exact .inl ⟨rfl, .inr (.inl ⟨_, rfl⟩)⟩
theorem StAt.alk {K : PySem.W.Frag} {H : Hp} {v : V} (h : StAt v) : AlkAt K H v v := by
  rcases h with rfl | ⟨s, _, rfl⟩
  · exact .inl ⟨rfl, .inl rfl⟩
  · exact .inl ⟨rfl, .inr (.inr ⟨_, rfl⟩)⟩
theorem fl4 {n0 n1 n2 n3 : Int} : ∀ x ∈ [V.int n0, .int n1, .int n2, .int n3], FlAt x := fun x hx => by
  rcases List.mem_cons.mp hx with rfl | hx
  · exact .inl ⟨_, rfl⟩
  rcases List.mem_cons.mp hx with rfl | hx
  · exact .inl ⟨_, rfl⟩
  rcases List.mem_cons.mp hx with rfl | hx
  · exact .inl ⟨_, rfl⟩
  · rw [List.mem_singleton.mp hx]; exact .inl ⟨_, rfl⟩
/-! #### a comprehension over a text, all the same thing -/
section
variable {g : TG} {tt : TT} {te : TE} {vs : List Nat} {σ : L2.St} {H1 : Hp} {D : Addr} {Qd : Hp → Prop} {l : List Nat}
theorem lcSc (v : V) (hD : H1 D = none) (hz : l.length ≤ 100000)
    (hs : ∀ (i c : Nat) (H' : Hp) (Kt : V → Hp → Prop) (Kf : Hp → Prop), l[i]? = some c → Same H1 H' → (∀ H4, Same H' H4 → Kt v H4) → LcT g tt te vs σ (.str ⟨#[c]⟩) H' Kt Kf)
    (hd : ∀ H, Same H1 H → H D = some (.lst (List.replicate l.length v)) → Qd H) : LcG (Its (sO l)) g tt te vs σ H1 D Qd := by
  refine ⟨fun i m H => m = l.length - i ∧ i ≤ l.length ∧ Same H1 H ∧ H D = some (.lst (List.replicate i v)), ⟨l.length, rfl, Nat.zero_le _, Same.upd0 hD, upd_same⟩, ?_⟩
  rintro i m H ⟨rfl, hi, s, e⟩
  by_cases hlt : i < l.length
  · refine .inr ⟨?_, fun H => Same H1 H ∧ H D = some (.lst (List.replicate (i + 1) v)), fun H' p' => ⟨l.length - (i + 1), by omega, rfl, hlt, p'⟩, fun x H' y => ?_⟩
    · show i < l.toArray.size
      rw [List.size_toArray]; exact hlt
    · obtain ⟨rfl, c, hc, rfl⟩ := y
      have hc : l.toArray[i]? = some c := hc
      rw [List.getElem?_toArray] at hc
      exact hs i c H' _ _ hc s fun H4 s4 => ⟨_, s4 _ _ e, by rw [List.length_replicate, sizeLine_eq]; omega, Same.mut' (s.trans s4) But.refl.upd hD, by rw [upd_same, List.replicate_succ']⟩
  · have ei : i = l.length := by omega
    subst ei
    refine .inl ⟨?_, hd H s e⟩
    show l.toArray.size ≤ l.length
    rw [List.size_toArray]; exact Nat.le_refl _
end
theorem reps_bl (n : Nat) : List.replicate n (V.bl true) = (List.replicate n true).map V.bl := by rw [List.map_replicate]
theorem reps_all (n : Nat) : (List.replicate n true).all id = true := by
  rw [List.all_eq_true]
  intro x hx
  rw [List.eq_of_mem_replicate hx]; rfl
theorem isN_nat (n : Nat) : isN (.int (n : Int)) = true := by
  unfold isN
  simp
theorem styF_put (w h lw lh mw mh g s r st : V) : putF "stand" st (putF "rims" r (putF "shrink" s (putF "grow" g (putF "most_high" mh (putF "most_wide" mw (putF "least_high" lh (putF "least_wide" lw (putF "high" h (putF "wide" w []))))))))) = styF w h lw lh mw mh g s r st := by kernel_rfl
/-! #### ten values in a list -/
def names10 : List Str := ["wide", "high", "least_wide", "least_high", "most_wide", "most_high", "grow", "shrink", "rims", "stand"]
def styL (fs : List V) : List (Str × V) := names10.zip fs
theorem styL_F (w h lw lh mw mh g s r st : V) : styL [w, h, lw, lh, mw, mh, g, s, r, st] = styF w h lw lh mw mh g s r st := rfl
def OkF (K : PySem.W.Frag) (H : Hp) : Nat → V → Prop
  | 0, v => SzAt H v
  | 1, v => SzAt H v
  | 2, v => BdAt v
  | 3, v => BdAt v
  | 4, v => BdAt v
  | 5, v => BdAt v
  | 6, v => CtAt v
  | 7, v => CtAt v
  | 8, v => RmAt K H v
  | _, v => StAt v
def OkL (K : PySem.W.Frag) (H : Hp) (fs : List V) : Prop := fs.length = 10 ∧ ∀ (i : Nat) (v : V), fs[i]? = some v → OkF K H i v
theorem OkF.same {K : PySem.W.Frag} {H H' : Hp} {i : Nat} {v : V} (h : OkF K H i v) (s : Same H H') : OkF K H' i v :=
  match i, h with
  | 0, h => SzAt.same h s
  | 1, h => SzAt.same h s
  | 2, h => h
  | 3, h => h
  | 4, h => h
  | 5, h => h
  | 6, h => h
  | 7, h => h
  | 8, h => RmAt.same h s
  | _ + 9, h => h
theorem OkL.same {K : PySem.W.Frag} {H H' : Hp} {fs : List V} (h : OkL K H fs) (s : Same H H') : OkL K H' fs := ⟨h.1, fun i v e => (h.2 i v e).same s⟩
theorem OkL.vals {K : PySem.W.Frag} {H : Hp} {w h lw lh mw mh g s r st : V} (k : OkL K H [w, h, lw, lh, mw, mh, g, s, r, st]) : ValsOk K H w h lw lh mw mh g s r st :=
  ⟨k.2 0 _ rfl, k.2 1 _ rfl, k.2 2 _ rfl, k.2 3 _ rfl, k.2 4 _ rfl, k.2 5 _ rfl, k.2 6 _ rfl, k.2 7 _ rfl, k.2 8 _ rfl, k.2 9 _ rfl⟩
theorem ten {fs : List V} (h : fs.length = 10) : ∃ w h' lw lh mw mh g s r st, fs = [w, h', lw, lh, mw, mh, g, s, r, st] :=
  match fs, h with
  | [w, h', lw, lh, mw, mh, g, s, r, st], _ => ⟨w, h', lw, lh, mw, mh, g, s, r, st, rfl⟩
def dfltL (U : Addr) : List V := [.non, .non, .non, .non, .non, .non, .int 0, .int 1, .ref U, .non]
theorem dflt_ok {K : PySem.W.Frag} {H : Hp} {U : Addr} (t : ∀ H, SqT K H U [.int 0, .int 0, .int 0, .int 0]) : OkL K H (dfltL U) := by
  refine ⟨rfl, fun i v e => ?_⟩
  match i, e with
  | 0, e => cases e; exact .non
  | 1, e => cases e; exact .non
  | 2, e => cases e; exact .inl rfl
  | 3, e => cases e; exact .inl rfl
  | 4, e => cases e; exact .inl rfl
  | 5, e => cases e; exact .inl rfl
  | 6, e => cases e; exact ⟨0, rfl⟩
  | 7, e => cases e; exact ⟨1, rfl⟩
  | 8, e => cases e; exact ⟨U, 0, 0, 0, 0, rfl, t H⟩
  | 9, e => cases e; exact .inl rfl
  | n + 10, e => cases e
/-- told at some places -/
def mixL (fs ds : List V) (told : List Nat) : List V := (List.range 10).map fun i => if told.contains i then fs.getD i .non else ds.getD i .non
theorem mix_at {fs ds : List V} {told : List Nat} {i : Nat} (h : i < 10) : (mixL fs ds told)[i]? = some (if told.contains i then fs.getD i .non else ds.getD i .non) := by
  unfold mixL
  rw [List.getElem?_map, List.getElem?_range h]; rfl
theorem mix_ok {K : PySem.W.Frag} {H : Hp} {fs ds : List V} {told : List Nat} (hf : OkL K H fs) (hd : OkL K H ds) : OkL K H (mixL fs ds told) := by
  refine ⟨by unfold mixL; rw [List.length_map, List.length_range], fun i v e => ?_⟩
  have hi : i < 10 := by
    have := (List.getElem?_eq_some_iff.mp e).1
    unfold mixL at this
    rwa [List.length_map, List.length_range] at this
  rw [mix_at hi] at e
  cases e
  split
  · exact hf.2 i _ (by rw [List.getD_eq_getElem?_getD, List.getElem?_eq_getElem (by rw [hf.1]; exact hi)]; rfl)
  · exact hd.2 i _ (by rw [List.getD_eq_getElem?_getD, List.getElem?_eq_getElem (by rw [hd.1]; exact hi)]; rfl)
def sp_Style_init (K : PySem.W.Frag) (C : Addr) : Sp := fun vs H Q _ => ∃ (x dx : Addr) (w h lw lh mw mh g s r st : V), vs = [.ref x, w, h, lw, lh, mw, mh, g, s, r, st] ∧ H x = some (.ins C dx []) ∧ ValsOk K H w h lw lh mw mh g s r st ∧ ∀ H', But x H H' → H' x = some (.ins C dx (styF w h lw lh mw mh g s r st)) → Q .non H'
theorem make_same {H : Hp} {x dx : Addr} {o o' : HO} (fx : H x = none) (fdx : H dx = none) (n : dx ≠ x) : Same H (upd (upd H dx o) x o') := fun b u e => by
  rw [upd_ne (ne_of_none e fx), upd_ne (ne_of_none e fdx)]; exact e
theorem mk_style {K : PySem.W.Frag} {H : Hp} {C : Addr} {fs : List V} {Q : VK} {E : XK} (ok : OkL K H fs) (k : ∀ (x dx : Addr) H', Same H H' → H x = none → H' x = some (.ins C dx (styL fs)) → Q (.ref x) H') :
    ∀ x dx, H x = none → H dx = none → dx ≠ x → sp_Style_init K C (.ref x :: fs) (upd (upd H dx (.own x)) x (.ins C dx [])) (fun v H3 => v = .non ∧ Q (.ref x) H3) E := by
  intro x dx fx fdx n
  obtain ⟨w, h, lw, lh, mw, mh, g, s, r, st, rfl⟩ := ten ok.1
  have sm := make_same (o := HO.own x) (o' := HO.ins C dx []) fx fdx n
  exact ⟨x, dx, w, h, lw, lh, mw, mh, g, s, r, st, rfl, upd_same, ok.vals.same sm, fun H' b e => ⟨rfl, k x dx H' (Same.mut' sm b fx) fx e⟩⟩
theorem SzAt.dr {H H' : Hp} {a : Addr} {v : V} (h : SzAt H v) (hs : Src H a) (d : Dr a H H') : SzAt H' v := by
  obtain ⟨t, ht⟩ := hs
  exact h.but d.b ht
theorem RmAt.dr {K : PySem.W.Frag} {H H' : Hp} {a : Addr} {v : V} (h : RmAt K H v) (hs : Src H a) (d : Dr a H H') : RmAt K H' v := by
  obtain ⟨t, ht⟩ := hs
  exact h.but d.b ht
theorem tup_dr {H H' : Hp} {p a : Addr} {xs : List V} (d : Dr p H H') (hs : Src H p) (h : H a = some (.tup xs)) : H' a = some (.tup xs) := by
  obtain ⟨t, ht⟩ := hs
  exact tup_but d.b ht h
theorem four {α : Type} {us : List α} (h : us.length = 4) : ∃ a b c d, us = [a, b, c, d] :=
  match us, h with
  | [a, b, c, d], _ => ⟨a, b, c, d, rfl⟩
theorem mix_one {w h lw lh mw mh g s r st : V} {U : Addr} : ∀ {i : Nat}, i < 10 → mixL [w, h, lw, lh, mw, mh, g, s, r, st] (dfltL U) [i] = (dfltL U).set i ([w, h, lw, lh, mw, mh, g, s, r, st].getD i .non)
  | 0, _ => rfl
  | 1, _ => rfl
  | 2, _ => rfl
  | 3, _ => rfl
  | 4, _ => rfl
  | 5, _ => rfl
  | 6, _ => rfl
  | 7, _ => rfl
  | 8, _ => rfl
  | 9, _ => rfl
  | n + 10, h => absurd h (by omega)
theorem mk_mix {K : PySem.W.Frag} {H : Hp} {C U : Addr} {fs : List V} {Q : VK} {E : XK} (told : List Nat) (ok : OkL K H fs) (t : ∀ H, SqT K H U [.int 0, .int 0, .int 0, .int 0]) (k : ∀ (x dx : Addr) H', Same H H' → H x = none → H' x = some (.ins C dx (styL (mixL fs (dfltL U) told))) → Q (.ref x) H') :
    ∀ x dx, H x = none → H dx = none → dx ≠ x → sp_Style_init K C (.ref x :: mixL fs (dfltL U) told) (upd (upd H dx (.own x)) x (.ins C dx [])) (fun v H3 => v = .non ∧ Q (.ref x) H3) E :=
  mk_style (mix_ok ok (dflt_ok t)) k
theorem sty_at {K : PySem.W.Frag} {H : Hp} {C x dx : Addr} {fs : List V} {R : Hp → Prop} {E : XK} (ok : OkL K H fs) (fx : H x = none) (fdx : H dx = none) (n : dx ≠ x) (k : ∀ H', Same H H' → H' x = some (.ins C dx (styL fs)) → R H') :
    sp_Style_init K C (.ref x :: fs) (upd (upd H dx (.own x)) x (.ins C dx [])) (fun v H3 => v = .non ∧ R H3) E := by
  obtain ⟨w, h, lw, lh, mw, mh, g, s, r, st, rfl⟩ := ten ok.1
  have sm := make_same (o := HO.own x) (o' := HO.ins C dx []) fx fdx n
  exact ⟨x, dx, w, h, lw, lh, mw, mh, g, s, r, st, rfl, upd_same, ok.vals.same sm, fun H' b e => ⟨rfl, k H' (Same.mut' sm b fx) e⟩⟩
end My

namespace My
open PySem L2
theorem atK {xs : List V} {k : Nat} {v : V} (h : xs[k]? = some v) : atI xs (k : Int) = some v := by
  unfold atI
  rw [ixN_nat (List.getElem?_eq_some_iff.mp h).1]
  exact h
/-- a draw off the first ones of a list -/
theorem pickP {P : V → Prop} {xs : List V} (ys : List V) {n : Int} (h : ∀ x ∈ xs, P x) (h0 : 0 ≤ n) (h1 : n < xs.length) : ∃ x, atI (xs ++ ys) n = some x ∧ P x := by
  obtain ⟨k, rfl⟩ := Int.eq_ofNat_of_zero_le h0
  have hk : k < xs.length := by omega
  exact ⟨xs[k], atK (by rw [List.getElem?_append_left hk]; exact List.getElem?_eq_getElem hk), h _ (List.getElem_mem hk)⟩
theorem allC {P : V → Prop} {x : V} {xs : List V} (h : P x) (t : ∀ y ∈ xs, P y) : ∀ y ∈ x :: xs, P y := List.forall_mem_cons.mpr ⟨h, t⟩
theorem allN {P : V → Prop} : ∀ y ∈ ([] : List V), P y := fun _ h => by cases h
theorem pickA {P : V → Prop} {xs : List V} {n : Int} (h : ∀ x ∈ xs, P x) (h0 : 0 ≤ n) (h1 : n < xs.length) : ∃ x, atI xs n = some x ∧ P x := by
  have := pickP [] h h0 h1
  rwa [List.append_nil] at this
end My

/-! ### slices by plain numbers -/
namespace My
open PySem L2
theorem cutV_take (xs : List V) (j : Nat) : cutV xs none (some (j : Int)) = xs.take j := by
  unfold cutV
  rw [HT.sIx_none, HT.sIx_nat, List.drop_zero, Nat.sub_zero]
  by_cases h : j ≤ xs.length
  · rw [Nat.min_eq_left h]
  · rw [Nat.min_eq_right (by omega), List.take_of_length_le (Nat.le_refl _), List.take_of_length_le (by omega)]
theorem cutV_drop (xs : List V) (j : Nat) : cutV xs (some (j : Int)) none = xs.drop j := by
  unfold cutV
  rw [HT.sIx_none, HT.sIx_nat]
  by_cases h : j ≤ xs.length
  · rw [Nat.min_eq_left h, List.take_of_length_le (by rw [List.length_drop]; omega)]
  · rw [Nat.min_eq_right (by omega), List.drop_of_length_le (Nat.le_refl _), List.drop_of_length_le (by omega), List.take_nil]
theorem cutV_mid (xs : List V) (i j : Nat) (h : i ≤ j) : cutV xs (some (i : Int)) (some (j : Int)) = (xs.take j).drop i := by
  unfold cutV
  rw [HT.sIx_nat, HT.sIx_nat]
  by_cases h1 : i ≤ xs.length
  · by_cases h2 : j ≤ xs.length
    · rw [Nat.min_eq_left h1, Nat.min_eq_left h2, List.drop_take]
    · rw [Nat.min_eq_left h1, Nat.min_eq_right (by omega), List.take_of_length_le (by rw [List.length_drop]; omega), List.take_of_length_le (by omega)]
  · rw [Nat.min_eq_right (show xs.length ≤ i by omega), List.drop_of_length_le (Nat.le_refl _), List.take_nil, List.drop_of_length_le (by rw [List.length_take]; omega)]
theorem cutV_init (xs : List V) : cutV xs none (some (-1)) = xs.take (xs.length - 1) := by
  unfold cutV
  have e : HT.sIx xs.length xs.length (some (-1)) = xs.length - 1 := by
    show (if (-1 : Int) < 0 then ((-1 : Int) + (xs.length : Int)).toNat else min (-1 : Int).toNat xs.length) = xs.length - 1
    rw [if_pos (by decide)]; omega
  rw [HT.sIx_none, e, List.drop_zero, Nat.sub_zero]
end My

/-! ### texts: signs, pieces -/
namespace My
open PySem L2
theorem at_some {α : Type} {xs : List α} {i : Int} (h0 : 0 ≤ i) (h1 : i < xs.length) : ∃ c, atI xs i = some c ∧ c ∈ xs := by
  obtain ⟨k, rfl⟩ := Int.eq_ofNat_of_zero_le h0
  have hk : k < xs.length := by omega
  refine ⟨xs[k], ?_, List.getElem_mem hk⟩
  unfold atI
  rw [ixN_nat hk]
  exact List.getElem?_eq_getElem hk
theorem strOk_iff {x : Str} : PyData.strOk x = true ↔ ∀ c ∈ x.cps.toList, c < 0x110000 := by
  unfold PyData.strOk
  rw [← Array.all_toList, List.all_eq_true]
  exact ⟨fun h c hc => of_decide_eq_true (h c hc), fun h c hc => decide_eq_true (h c hc)⟩
theorem strOk_one {c : Nat} (h : c < 0x110000) : PyData.strOk ⟨#[c]⟩ = true := strOk_iff.mpr fun d hd => by
  rw [List.mem_singleton.mp hd]; exact h
theorem strOk_append {x y : Str} (hx : PyData.strOk x = true) (hy : PyData.strOk y = true) : PyData.strOk (x ++ y) = true := strOk_iff.mpr fun c hc => by
  have : c ∈ (x.cps ++ y.cps).toList := hc
  rw [Array.toList_append] at this
  rcases List.mem_append.mp this with h | h
  · exact strOk_iff.mp hx c h
  · exact strOk_iff.mp hy c h
theorem strOk_cut {x : Str} {lo hi : Option Int} (hx : PyData.strOk x = true) : PyData.strOk (cutS x lo hi) = true := strOk_iff.mpr fun c hc => by
  have : c ∈ (x.cps.toList.drop (HT.sIx x.length 0 lo)).take (HT.sIx x.length x.length hi - HT.sIx x.length 0 lo) := hc
  exact strOk_iff.mp hx c (List.mem_of_mem_drop (List.mem_of_mem_take this))
theorem str_sign {x : Str} {i : Int} (h0 : 0 ≤ i) (h1 : i < x.length) (ok : PyData.strOk x = true) : ∃ c, atI x.cps.toList i = some c ∧ PyData.strOk ⟨#[c]⟩ = true := by
  obtain ⟨c, h, m⟩ := at_some (xs := x.cps.toList) h0 (by rw [Array.length_toList]; exact h1)
  exact ⟨c, h, strOk_one (strOk_iff.mp ok c m)⟩
end My

/-! ### tracks and asks: plain mathematics -/
namespace My
open PySem L2
inductive Tk where
  | cells (n : Int)
  | fit
  | share (k : Int)
  deriving DecidableEq
def Tk.free : Tk → Bool
  | .cells _ => false
  | _ => true
def Tk.told : Tk → Int
  | .cells n => n
  | _ => 0
def Tk.ok : Tk → Prop
  | .cells n => 0 ≤ n
  | .fit => True
  | .share k => 1 ≤ k
def TkAt (H : Hp) (v : V) : Tk → Prop
  | .cells n => v = .int n
  | .fit => v = .str "fit"
  | .share k => ∃ r, v = .ref r ∧ H r = some (.tup [.str "share", .int k])
theorem TkAt.mono {H H' : Hp} {v : V} {t : Tk} (h : TkAt H v t) (s : Same H H') : TkAt H' v t := by
  cases t with
  | cells n => exact h
  | fit => exact h
  | share k => obtain ⟨r, e, g⟩ := h; exact ⟨r, e, s _ _ g⟩
theorem TkAt.but {H H' : Hp} {v : V} {t : Tk} {a : Addr} {xs : List V} (h : TkAt H v t) (g : H a = some (.lst xs)) (b : But a H H') : TkAt H' v t := by
  cases t with
  | cells n => exact h
  | fit => exact h
  | share k => obtain ⟨r, e, g2⟩ := h; exact ⟨r, e, b.app (fun z => by rw [z, g] at g2; cases g2) g2⟩
/-- an item's place, and what stands there -/
def TksAt (H : Hp) (vs : List V) (ts : List Tk) : Prop := vs.length = ts.length ∧ ∀ (i : Nat) (v : V) (t : Tk), vs[i]? = some v → ts[i]? = some t → TkAt H v t
theorem TksAt.mono {H H' : Hp} {vs : List V} {ts : List Tk} (h : TksAt H vs ts) (s : Same H H') : TksAt H' vs ts := ⟨h.1, fun i v t a b => (h.2 i v t a b).mono s⟩
theorem TksAt.but {H H' : Hp} {vs : List V} {ts : List Tk} {a : Addr} {xs : List V} (h : TksAt H vs ts) (g : H a = some (.lst xs)) (b : But a H H') : TksAt H' vs ts := ⟨h.1, fun i v t x y => (h.2 i v t x y).but g b⟩
theorem TksAt.at {H : Hp} {vs : List V} {ts : List Tk} (h : TksAt H vs ts) {i : Nat} {t : Tk} (e : ts[i]? = some t) : ∃ v, vs[i]? = some v ∧ TkAt H v t := by
  have hi := (List.getElem?_eq_some_iff.mp e).1
  have l := h.1
  exact ⟨vs[i], List.getElem?_eq_getElem (by omega), h.2 i _ t (List.getElem?_eq_getElem (by omega)) e⟩
theorem TksAt.at' {H : Hp} {vs : List V} {ts : List Tk} (h : TksAt H vs ts) {i : Nat} {v : V} (e : vs[i]? = some v) : ∃ t, ts[i]? = some t ∧ TkAt H v t := by
  have hi := (List.getElem?_eq_some_iff.mp e).1
  have l := h.1
  exact ⟨ts[i], List.getElem?_eq_getElem (by omega), h.2 i v _ e (List.getElem?_eq_getElem (by omega))⟩
/-! #### how much tracks grow -/
def tkF (ts : List Tk) (i : Nat) : Bool := match ts[i]? with
  | some t => t.free
  | none => false
def freeL (ts : List Tk) (f m : Nat) : List Nat := ((List.range m).map fun k => f + k).filter (tkF ts)
theorem freeL_nodup (ts : List Tk) (f m : Nat) : (freeL ts f m).Nodup := by
  unfold freeL
  refine List.Pairwise.filter _ ?_
  have := List.nodup_range (n := m)
  exact (List.pairwise_map.mpr (this.imp fun h => by omega))
theorem freeL_mem {ts : List Tk} {f m i : Nat} : i ∈ freeL ts f m ↔ f ≤ i ∧ i < f + m ∧ tkF ts i = true := by
  unfold freeL
  rw [List.mem_filter, List.mem_map]
  constructor
  · rintro ⟨⟨k, hk, rfl⟩, h⟩
    have := List.mem_range.mp hk
    exact ⟨by omega, by omega, h⟩
  · rintro ⟨h1, h2, h3⟩
    exact ⟨⟨i - f, List.mem_range.mpr (by omega), by omega⟩, h3⟩
def partA (lack : Int) (L j : Nat) : Int := lack * ((j : Int) + 1) / (L : Int) - lack * (j : Int) / (L : Int)
def sliceSum (ss : List Int) (f m : Nat) : Int := ((ss.take (f + m)).drop f).sum
/-- what an ask deals to a track -/
def pA (ts : List Tk) (ss : List Int) (f m : Nat) (wanted : Int) (i : Nat) : Int :=
  if i ∈ freeL ts f m ∧ 0 < wanted - sliceSum ss f m then partA (wanted - sliceSum ss f m) (freeL ts f m).length ((freeL ts f m).idxOf i) else 0
theorem partA_nonneg {lack : Int} {L j : Nat} (h : 0 ≤ lack) (hL : 0 < L) : 0 ≤ partA lack L j := by
  unfold partA
  have h1 : lack * (j : Int) ≤ lack * ((j : Int) + 1) := Int.mul_le_mul_of_nonneg_left (by omega) h
  have h2 : lack * (j : Int) / (L : Int) ≤ lack * ((j : Int) + 1) / (L : Int) := Int.ediv_le_ediv (by omega) h1
  omega
theorem pA_nonneg (ts : List Tk) (ss : List Int) (f m : Nat) (wanted : Int) (i : Nat) : 0 ≤ pA ts ss f m wanted i := by
  unfold pA
  split
  · next h => exact partA_nonneg (Int.le_of_lt h.2) (List.length_pos_of_mem h.1)
  · exact Int.le_refl 0
/-- the grown ones, by places -/
def growM (n : Nat) (ts : List Tk) (ss g : List Int) (f m : Nat) (wanted : Int) : List Int := (List.range n).map fun i => max (wAt g i) (pA ts ss f m wanted i)
theorem growM_len {n : Nat} {ts : List Tk} {ss g : List Int} {f m : Nat} {wanted : Int} : (growM n ts ss g f m wanted).length = n := by unfold growM; rw [List.length_map, List.length_range]
theorem growM_at {n : Nat} {ts : List Tk} {ss g : List Int} {f m : Nat} {wanted : Int} {i : Nat} (hi : i < n) : wAt (growM n ts ss g f m wanted) i = max (wAt g i) (pA ts ss f m wanted i) := by
  unfold growM wAt
  rw [List.getD_eq_getElem?_getD, List.getElem?_map, List.getElem?_range hi]; rfl
/-- behind the first p places of the free ones -/
def growP (ts : List Tk) (ss g : List Int) (f m : Nat) (wanted : Int) (p : Nat) (i : Nat) : Int :=
  if i ∈ (freeL ts f m).take p then max (wAt g i) (partA (wanted - sliceSum ss f m) (freeL ts f m).length ((freeL ts f m).idxOf i)) else wAt g i
theorem growP_zero {ts : List Tk} {ss g : List Int} {f m : Nat} {wanted : Int} (i : Nat) : growP ts ss g f m wanted 0 i = wAt g i := by
  unfold growP; simp
theorem growP_end {ts : List Tk} {ss g : List Int} {f m : Nat} {wanted : Int} {i : Nat} (hl : 0 < wanted - sliceSum ss f m) (hg : 0 ≤ wAt g i) : growP ts ss g f m wanted (freeL ts f m).length i = max (wAt g i) (pA ts ss f m wanted i) := by
  unfold growP pA
  rw [List.take_length]
  by_cases h : i ∈ freeL ts f m
  · rw [if_pos h, if_pos ⟨h, hl⟩]
  · rw [if_neg h, if_neg (fun z => h z.1)]; omega
theorem growP_skip {ts : List Tk} {ss g : List Int} {f m : Nat} {wanted : Int} {i : Nat} (hl : ¬ 0 < wanted - sliceSum ss f m) (hg : 0 ≤ wAt g i) : wAt g i = max (wAt g i) (pA ts ss f m wanted i) := by
  unfold pA
  rw [if_neg (fun z => hl z.2)]; omega
theorem take_succ_mem {l : List Nat} {p c i : Nat} (h : l[p]? = some c) : i ∈ l.take (p + 1) ↔ i ∈ l.take p ∨ i = c := by
  rw [List.take_add_one, h]; simp
theorem idxOf_at : ∀ {l : List Nat}, l.Nodup → ∀ {p c : Nat}, l[p]? = some c → l.idxOf c = p
  | [], _, _, _, h => by simp at h
  | x :: l, _, 0, c, h => by
    have : x = c := by simpa using h
    subst this
    rw [List.idxOf_cons_self]
  | x :: l, hn, p + 1, c, h => by
    have h : l[p]? = some c := by simpa using h
    have hne : x ≠ c := fun e => (List.nodup_cons.mp hn).1 (by rw [e]; exact List.mem_of_getElem? h)
    rw [List.idxOf_cons, idxOf_at (List.nodup_cons.mp hn).2 h]
    have e : (x == c) = false := beq_eq_false_iff_ne.mpr hne
    rw [e]; rfl
theorem not_mem_take {l : List Nat} (hn : l.Nodup) {p c : Nat} (h : l[p]? = some c) : c ∉ l.take p := fun hm => by
  obtain ⟨j, hj, e⟩ := List.getElem_of_mem hm
  rw [List.length_take] at hj
  rw [List.getElem_take] at e
  have h1 : l[j]? = some c := by rw [List.getElem?_eq_getElem (by omega), e]
  have := idxOf_at hn h1
  have := idxOf_at hn h
  omega
theorem growP_succ {ts : List Tk} {ss g : List Int} {f m : Nat} {wanted : Int} {p c : Nat} (h : (freeL ts f m)[p]? = some c) (i : Nat) :
    growP ts ss g f m wanted (p + 1) i = if i = c then max (growP ts ss g f m wanted p c) (partA (wanted - sliceSum ss f m) (freeL ts f m).length p) else growP ts ss g f m wanted p i := by
  have hn := freeL_nodup ts f m
  unfold growP
  by_cases hi : i = c
  · subst hi
    rw [if_pos ((take_succ_mem h).mpr (.inr rfl)), if_pos rfl, if_neg (not_mem_take hn h), idxOf_at hn h]
  · rw [if_neg hi]
    by_cases hm : i ∈ (freeL ts f m).take p
    · rw [if_pos ((take_succ_mem h).mpr (.inl hm)), if_pos hm]
    · rw [if_neg (fun z => by rcases (take_succ_mem h).mp z with z | z; exact hm z; exact hi z), if_neg hm]
/-! #### the steps -/
abbrev Ask3 := Nat × Nat × Int
def AskAt (H : Hp) (v : V) (q : Ask3) : Prop := ∃ r, v = .ref r ∧ H r = some (.tup [.int (q.1 : Int), .int (q.2.1 : Int), .int q.2.2])
theorem AskAt.mono {H H' : Hp} {v : V} {q : Ask3} (h : AskAt H v q) (s : Same H H') : AskAt H' v q := let ⟨r, e, g⟩ := h; ⟨r, e, s _ _ g⟩
def AsksAt (H : Hp) (vs : List V) (qs : List Ask3) : Prop := vs.length = qs.length ∧ ∀ (i : Nat) (v : V) (q : Ask3), vs[i]? = some v → qs[i]? = some q → AskAt H v q
theorem AsksAt.mono {H H' : Hp} {vs : List V} {qs : List Ask3} (h : AsksAt H vs qs) (s : Same H H') : AsksAt H' vs qs := ⟨h.1, fun i v t a b => (h.2 i v t a b).mono s⟩
theorem AsksAt.at' {H : Hp} {vs : List V} {qs : List Ask3} (h : AsksAt H vs qs) {i : Nat} {v : V} (e : vs[i]? = some v) : ∃ q, qs[i]? = some q ∧ AskAt H v q := by
  have hi := (List.getElem?_eq_some_iff.mp e).1
  have l := h.1
  exact ⟨qs[i], List.getElem?_eq_getElem (by omega), h.2 i v _ e (List.getElem?_eq_getElem (by omega))⟩
/-- an ask that a grid of n tracks takes -/
def AskOk (n : Nat) (q : Ask3) : Prop := 1 ≤ q.2.1 ∧ q.1 + q.2.1 ≤ n ∧ 0 ≤ q.2.2
def grow1 (n : Nat) (ts : List Tk) (gap : Int) (ss : List Int) (many : Nat) (g : List Int) (q : Ask3) : List Int :=
  if q.2.1 = many then growM n ts ss g q.1 q.2.1 (q.2.2 - gap * ((many : Int) - 1)) else g
def grownM (ts : List Tk) (qs : List Ask3) (gap : Int) (ss : List Int) (many : Nat) : List Int := qs.foldl (grow1 ts.length ts gap ss many) (List.replicate ts.length 0)
def stepM (ts : List Tk) (qs : List Ask3) (gap : Int) (ss : List Int) (many : Nat) : List Int := (List.range ts.length).map fun i => wAt ss i + wAt (grownM ts qs gap ss many) i
def trackM (ts : List Tk) (qs : List Ask3) (gap : Int) : List Int := (List.range ts.length).foldl (fun s k => stepM ts qs gap s (k + 1)) (ts.map Tk.told)
theorem stepM_len {ts : List Tk} {qs : List Ask3} {gap : Int} {ss : List Int} {many : Nat} : (stepM ts qs gap ss many).length = ts.length := by unfold stepM; rw [List.length_map, List.length_range]
theorem stepM_at {ts : List Tk} {qs : List Ask3} {gap : Int} {ss : List Int} {many i : Nat} (hi : i < ts.length) : wAt (stepM ts qs gap ss many) i = wAt ss i + wAt (grownM ts qs gap ss many) i := by
  unfold stepM
  conv => lhs; unfold wAt
  rw [List.getD_eq_getElem?_getD, List.getElem?_map, List.getElem?_range hi]; rfl
def stepsM (ts : List Tk) (qs : List Ask3) (gap : Int) (k : Nat) : List Int := (List.range k).foldl (fun s k => stepM ts qs gap s (k + 1)) (ts.map Tk.told)
theorem stepsM_succ (ts : List Tk) (qs : List Ask3) (gap : Int) (k : Nat) : stepsM ts qs gap (k + 1) = stepM ts qs gap (stepsM ts qs gap k) (k + 1) := by
  unfold stepsM
  rw [List.range_succ, List.foldl_append]; rfl
theorem stepsM_len (ts : List Tk) (qs : List Ask3) (gap : Int) : ∀ k, (stepsM ts qs gap k).length = ts.length
  | 0 => by unfold stepsM; simp
  | k + 1 => by rw [stepsM_succ]; exact stepM_len
theorem grow1_len {n : Nat} {ts : List Tk} {gap : Int} {ss : List Int} {many : Nat} {g : List Int} {q : Ask3} (h : g.length = n) : (grow1 n ts gap ss many g q).length = n := by
  unfold grow1
  split
  · exact growM_len
  · exact h
theorem grown_len {n : Nat} {ts : List Tk} {gap : Int} {ss : List Int} {many : Nat} : ∀ (qs : List Ask3) (g : List Int), g.length = n → (qs.foldl (grow1 n ts gap ss many) g).length = n
  | [], g, h => h
  | q :: qs, g, h => grown_len qs _ (grow1_len h)
/-- the greatest of x and some more -/
def maxF (x : Int) (l : List Int) : Int := l.foldl max x
theorem maxF_ge {x : Int} : ∀ {l : List Int}, x ≤ maxF x l
  | [] => Int.le_refl _
  | y :: l => Int.le_trans (show x ≤ max x y by omega) (maxF_ge (l := l))
theorem maxF_all {y : Int} : ∀ {l : List Int} {x : Int}, y ∈ l → y ≤ maxF x l
  | z :: l, x, h => by
    rcases List.mem_cons.mp h with rfl | h
    · exact Int.le_trans (show y ≤ max x y by omega) (maxF_ge (l := l))
    · exact maxF_all (l := l) h
theorem maxF_mem : ∀ {l : List Int} {x : Int}, maxF x l = x ∨ maxF x l ∈ l
  | [], x => .inl rfl
  | y :: l, x => by
    rcases maxF_mem (l := l) (x := max x y) with h | h
    · by_cases hxy : x ≤ y
      · right; show maxF (max x y) l ∈ y :: l
        rw [h, Int.max_eq_right hxy]; exact List.mem_cons_self ..
      · left; show maxF (max x y) l = x
        rw [h]; omega
    · right; exact List.mem_cons_of_mem _ h
theorem maxF_uniq {x : Int} {l : List Int} {m : Int} (h1 : x ≤ m) (h2 : ∀ y ∈ l, y ≤ m) (h3 : m = x ∨ m ∈ l) : m = maxF x l := by
  have a : maxF x l ≤ m := by
    rcases maxF_mem (l := l) (x := x) with h | h
    · omega
    · exact h2 _ h
  have b : m ≤ maxF x l := by
    rcases h3 with h | h
    · rw [h]; exact maxF_ge
    · exact maxF_all h
  omega
theorem maxF_perm {x : Int} {l l' : List Int} (h : ∀ y, y ∈ l ↔ y ∈ l') : maxF x l = maxF x l' :=
  maxF_uniq maxF_ge (fun y hy => maxF_all ((h y).mpr hy)) (maxF_mem.imp id fun z => (h _).mp z)
/-- what all asks of one many deal to a track -/
def dealsA (ts : List Tk) (qs : List Ask3) (gap : Int) (ss : List Int) (many i : Nat) : List Int := (qs.filter fun q => decide (q.2.1 = many)).map fun q => pA ts ss q.1 q.2.1 (q.2.2 - gap * ((many : Int) - 1)) i
theorem grown_at {n : Nat} {ts : List Tk} {gap : Int} {ss : List Int} {many i : Nat} (hi : i < n) : ∀ (qs : List Ask3) (g : List Int), g.length = n → wAt (qs.foldl (grow1 n ts gap ss many) g) i = maxF (wAt g i) (dealsA ts qs gap ss many i)
  | [], g, h => rfl
  | q :: qs, g, h => by
    show wAt (qs.foldl _ (grow1 n ts gap ss many g q)) i = _
    rw [grown_at hi qs _ (grow1_len h)]
    unfold dealsA
    rw [List.filter_cons]
    by_cases e : q.2.1 = many
    · rw [if_pos (decide_eq_true e), List.map_cons]
      unfold grow1
      rw [if_pos e, growM_at hi]; rfl
    · rw [if_neg (by simpa using e)]
      unfold grow1
      rw [if_neg e]
theorem grownM_at {ts : List Tk} {qs : List Ask3} {gap : Int} {ss : List Int} {many i : Nat} (hi : i < ts.length) : wAt (grownM ts qs gap ss many) i = maxF 0 (dealsA ts qs gap ss many i) := by
  unfold grownM
  rw [grown_at hi _ _ List.length_replicate]
  congr 1
  unfold wAt
  rw [List.getD_eq_getElem?_getD, List.getElem?_replicate, if_pos hi]; rfl
theorem list_ext_wAt {xs ys : List Int} (hl : xs.length = ys.length) (h : ∀ i, i < xs.length → wAt xs i = wAt ys i) : xs = ys := by
  apply List.ext_getElem hl
  intro i h1 h2
  have := h i h1
  unfold wAt at this
  rw [List.getD_eq_getElem?_getD, List.getD_eq_getElem?_getD, List.getElem?_eq_getElem h1, List.getElem?_eq_getElem h2] at this
  exact this
theorem told_at {ts : List Tk} {i : Nat} {t : Tk} (h : ts[i]? = some t) : wAt (ts.map Tk.told) i = t.told := by
  unfold wAt
  rw [List.getD_eq_getElem?_getD, List.getElem?_map, h]; rfl
/-! #### asks of one track -/
theorem freeL_one (ts : List Tk) (f : Nat) : freeL ts f 1 = if tkF ts f = true then [f] else [] := by
  unfold freeL
  show List.filter (tkF ts) [f + 0] = _
  rw [Nat.add_zero, List.filter_cons]; rfl
theorem slice_one {ss : List Int} {f : Nat} (h : f < ss.length) : sliceSum ss f 1 = wAt ss f := by
  unfold sliceSum wAt
  rw [List.getD_eq_getElem?_getD, List.getElem?_eq_getElem h, List.drop_take, Nat.add_sub_cancel_left, List.drop_eq_getElem_cons h]
  simp only [List.take_succ_cons, List.take_zero, List.sum_cons, List.sum_nil, Int.add_zero, Option.getD_some]
/-- with asks of one track alone -/
theorem track_single {ts : List Tk} {qs : List Ask3} {gap : Int} (hq : ∀ q ∈ qs, q.2.1 = 1 ∧ q.1 < ts.length) {i : Nat} {t : Tk} (ht : ts[i]? = some t) :
    wAt (trackM ts qs gap) i = if t.free = true then maxF 0 ((qs.filter fun q => decide (q.1 = i)).map fun q => q.2.2) else t.told := by
  have hi := (List.getElem?_eq_some_iff.mp ht).1
  have hf : tkF ts i = t.free := by unfold tkF; rw [ht]
  have later : ∀ (ss : List Int) (k : Nat), wAt (stepM ts qs gap ss (k + 2)) i = wAt ss i := fun ss k => by
    rw [stepM_at hi, grownM_at hi]
    have : dealsA ts qs gap ss (k + 2) i = [] := by
      unfold dealsA
      rw [List.map_eq_nil_iff, List.filter_eq_nil_iff]
      intro q hq'
      have := (hq q hq').1
      simp; omega
    rw [this]
    show wAt ss i + 0 = _
    omega
  have steps : ∀ k, wAt (stepsM ts qs gap (k + 1)) i = wAt (stepsM ts qs gap 1) i := fun k => by
    induction k with
    | zero => rfl
    | succ k ih => rw [stepsM_succ, later, ih]
  have e : trackM ts qs gap = stepsM ts qs gap ts.length := rfl
  obtain ⟨m, hm⟩ : ∃ m, ts.length = m + 1 := ⟨ts.length - 1, by omega⟩
  rw [e, hm, steps]
  have e1 : stepsM ts qs gap 1 = stepM ts qs gap (ts.map Tk.told) 1 := rfl
  rw [e1, stepM_at hi, grownM_at hi, told_at ht]
  have hpa : ∀ q ∈ qs, pA ts (ts.map Tk.told) q.1 q.2.1 (q.2.2 - gap * (((1 : Nat) : Int) - 1)) i = if q.1 = i ∧ t.free = true ∧ 0 < q.2.2 then q.2.2 else 0 := fun q hq' => by
    obtain ⟨h1, h2⟩ := hq q hq'
    unfold pA
    rw [h1, freeL_one, slice_one (by rw [List.length_map]; exact h2)]
    have e0 : gap * (((1 : Nat) : Int) - 1) = 0 := by simp
    rw [e0]
    by_cases hqi : q.1 = i
    · rw [hqi, hf, told_at ht]
      by_cases hfr : t.free = true
      · have h0 : t.told = 0 := by cases t <;> simp_all [Tk.free, Tk.told]
        rw [h0, if_pos hfr]
        by_cases hs : 0 < q.2.2
        · rw [if_pos ⟨by simp, by omega⟩, if_pos ⟨rfl, hfr, hs⟩]
          unfold partA
          simp
        · rw [if_neg (fun z => hs (by omega)), if_neg (fun z => hs z.2.2)]
      · rw [if_neg hfr, if_neg (by simp), if_neg (fun z => hfr z.2.1)]
    · rw [if_neg (fun z => ?_), if_neg (fun z => hqi z.1)]
      have := z.1
      split at this
      · exact hqi (List.mem_singleton.mp this).symm
      · cases this
  by_cases hfr : t.free = true
  · rw [if_pos hfr]
    have h0 : t.told = 0 := by cases t <;> simp_all [Tk.free, Tk.told]
    rw [h0, Int.zero_add]
    refine (maxF_uniq maxF_ge (fun y hy => ?_) ?_)
    · obtain ⟨q, hq1, rfl⟩ := List.mem_map.mp hy
      obtain ⟨hq2, hq3⟩ := List.mem_filter.mp hq1
      have hq3 := of_decide_eq_true hq3
      by_cases hs : 0 < q.2.2
      · refine maxF_all ?_
        unfold dealsA
        refine List.mem_map.mpr ⟨q, List.mem_filter.mpr ⟨hq2, decide_eq_true (hq q hq2).1⟩, ?_⟩
        rw [hpa q hq2, if_pos ⟨hq3, hfr, hs⟩]
      · exact Int.le_trans (by omega) maxF_ge
    · rcases maxF_mem (x := 0) (l := dealsA ts qs gap (ts.map Tk.told) 1 i) with h | h
      · exact .inl h
      · unfold dealsA at h
        obtain ⟨q, hq1, e2⟩ := List.mem_map.mp h
        obtain ⟨hq2, _⟩ := List.mem_filter.mp hq1
        rw [hpa q hq2] at e2
        by_cases hc : q.1 = i ∧ t.free = true ∧ 0 < q.2.2
        · rw [if_pos hc] at e2
          right
          show maxF 0 (List.map _ _) ∈ _
          rw [← e2]
          exact List.mem_map.mpr ⟨q, List.mem_filter.mpr ⟨hq2, decide_eq_true hc.1⟩, rfl⟩
        · rw [if_neg hc] at e2
          left
          unfold dealsA
          exact e2.symm
  · rw [if_neg hfr]
    have : maxF 0 (dealsA ts qs gap (ts.map Tk.told) 1 i) = 0 := by
      symm
      refine maxF_uniq (Int.le_refl 0) (fun y hy => ?_) (.inl rfl)
      unfold dealsA at hy
      obtain ⟨q, hq1, rfl⟩ := List.mem_map.mp hy
      obtain ⟨hq2, _⟩ := List.mem_filter.mp hq1
      rw [hpa q hq2, if_neg (fun z => hfr z.2.1)]
      exact Int.le_refl 0
    rw [this]; omega
/-! #### as data -/
def tkD : Tk → PyData
  | .cells n => .int n
  | .fit => .str "fit"
  | .share k => .tuple [.str "share", .int k]
def askD (q : Ask3) : PyData := .tuple [.int (q.1 : Int), .int (q.2.1 : Int), .int q.2.2]
section
variable {K : PySem.W.Frag} {H : Hp}
theorem dp_tk {v : V} {t : Tk} (h : TkAt H v t) : Dp K H v (tkD t) := by
  cases t with
  | cells n =>
    have e : v = .int n := h
    subst e; exact .int n
  | fit =>
    have e : v = .str "fit" := h
    subst e; exact .str _
  | share k =>
    obtain ⟨r, rfl, g⟩ := h
    exact .tup (sqT g) (.cons (.str _) (.cons (.int _) .nil))
theorem dpAll_of {α : Type} {f : α → PyData} : ∀ {vs : List V} {xs : List α}, vs.length = xs.length → (∀ (i : Nat) (v : V) (x : α), vs[i]? = some v → xs[i]? = some x → Dp K H v (f x)) → DpAll K H vs (xs.map f)
  | [], [], _, _ => .nil
  | [], _ :: _, h, _ => by cases h
  | _ :: _, [], h, _ => by cases h
  | v :: vs, x :: xs, h, k => .cons (k 0 v x rfl rfl) (dpAll_of (by simpa using h) fun i w y a b => k (i + 1) w y a b)
theorem dp_tks {vs : List V} {ts : List Tk} (h : TksAt H vs ts) : DpAll K H vs (ts.map tkD) := dpAll_of h.1 fun i v t a b => dp_tk (h.2 i v t a b)
theorem dp_ask {v : V} {q : Ask3} (h : AskAt H v q) : Dp K H v (askD q) := by
  obtain ⟨r, rfl, g⟩ := h
  exact .tup (sqT g) (.cons (.int _) (.cons (.int _) (.cons (.int _) .nil)))
theorem dp_asks {vs : List V} {qs : List Ask3} (h : AsksAt H vs qs) : DpAll K H vs (qs.map askD) := dpAll_of h.1 fun i v t a b => dp_ask (h.2 i v t a b)
end
theorem tkD_can (t : Tk) : (tkD t).canLay0 = true ∧ (tkD t).depth ≤ 1 := by cases t <;> simp [tkD, PyData.canLay0, PyData.canLayAll0, PyData.depth, PyData.depthAll] <;> decide +kernel
theorem tkD_nob (t : Tk) : nob (tkD t) = true := by cases t <;> simp [tkD, nob, nobAll]
theorem askD_can (q : Ask3) : (askD q).canLay0 = true ∧ (askD q).depth ≤ 1 := by simp [askD, PyData.canLay0, PyData.canLayAll0, PyData.depth, PyData.depthAll]
theorem askD_nob (q : Ask3) : nob (askD q) = true := by simp [askD, nob, nobAll]
theorem tks_shaped (ts : List Tk) : SeqAt.shaped (.list (ts.map tkD)) = true := shaped_map (m := 1) (by decide) (fun t => (tkD_can t).1) (fun t => (tkD_can t).2) ts
theorem asks_shaped (qs : List Ask3) : SeqAt.shaped (.list (qs.map askD)) = true := shaped_map (m := 1) (by decide) (fun t => (askD_can t).1) (fun t => (askD_can t).2) qs
/-- a thing's kind -/
def Tk.ty : Tk → String
  | .cells _ => "int"
  | .fit => "str"
  | .share _ => "tuple"
theorem TkAt.t7 {H : Hp} {v : V} {t : Tk} (h : TkAt H v t) : Ty7 H v t.ty := by
  cases t with
  | cells n =>
    have e : v = .int n := h
    subst e; exact .int n
  | fit =>
    have e : v = .str "fit" := h
    subst e; exact .str _
  | share k =>
    obtain ⟨r, rfl, g⟩ := h
    exact .tup g
theorem TkAt.isI {H : Hp} {v : V} {t : Tk} (h : TkAt H v t) : isI v = !t.free := by
  cases t with
  | cells n =>
    have e : v = .int n := h
    subst e; rfl
  | fit =>
    have e : v = .str "fit" := h
    subst e; rfl
  | share k =>
    obtain ⟨r, rfl, g⟩ := h
    rfl
theorem free_nats {ts : List Tk} {f m : Nat} : ((List.range m).filter fun i => tkF ts (f + i)).map (fun i : Nat => V.int ((f : Int) + (i : Int))) = natsV (freeL ts f m) := by
  unfold freeL natsV
  rw [List.filter_map, List.map_map]
  refine List.map_congr_left fun i _ => ?_
  show _ = V.int ((f + i : Nat) : Int)
  rw [Int.natCast_add]
theorem cut_ints (ss : List Int) (f m : Nat) : cutV (ss.map V.int) (some (f : Int)) (some ((f : Int) + (m : Int))) = ((ss.take (f + m)).drop f).map V.int := by
  rw [← Int.natCast_add, cutV_mid _ _ _ (by omega), ← List.map_take, ← List.map_drop]
theorem growM_skip {n : Nat} {ts : List Tk} {ss g : List Int} {f m : Nat} {wanted : Int} (hl : ¬ 0 < wanted - sliceSum ss f m) (hg : ∀ z ∈ g, 0 ≤ z) (lg : g.length = n) : growM n ts ss g f m wanted = g := by
  refine list_ext_wAt (by rw [growM_len, lg]) fun i hi => ?_
  rw [growM_len] at hi
  rw [growM_at hi]
  exact (growP_skip hl (hg _ (wAt_mem (by omega)))).symm
abbrev growL (n : Nat) (ts : List Tk) (ss g : List Int) (f m : Nat) (wanted : Int) (p : Nat) : List Int := (List.range n).map (growP ts ss g f m wanted p)
theorem growL_zero {n : Nat} {ts : List Tk} {ss g : List Int} {f m : Nat} {wanted : Int} (lg : g.length = n) : growL n ts ss g f m wanted 0 = g := by
  refine list_ext_wAt (by rw [List.length_map, List.length_range, lg]) fun i hi => ?_
  rw [List.length_map, List.length_range] at hi
  unfold wAt
  rw [List.getD_eq_getElem?_getD, List.getElem?_map, range_get hi]
  show growP ts ss g f m wanted 0 i = _
  rw [growP_zero]; rfl
theorem growL_end {n : Nat} {ts : List Tk} {ss g : List Int} {f m : Nat} {wanted : Int} (hl : 0 < wanted - sliceSum ss f m) (hg : ∀ z ∈ g, 0 ≤ z) (lg : g.length = n) : growL n ts ss g f m wanted (freeL ts f m).length = growM n ts ss g f m wanted := by
  unfold growL growM
  refine List.map_congr_left fun i hi => ?_
  have hi := List.mem_range.mp hi
  exact growP_end hl (hg _ (wAt_mem (by omega)))
theorem growL_at {n : Nat} {ts : List Tk} {ss g : List Int} {f m : Nat} {wanted : Int} {p c : Nat} (hc : c < n) : ((growL n ts ss g f m wanted p).map V.int)[c]? = some (.int (growP ts ss g f m wanted p c)) := by
  rw [List.getElem?_map, List.getElem?_map, range_get hc]; rfl
theorem growL_set {n : Nat} {ts : List Tk} {ss g : List Int} {f m : Nat} {wanted : Int} {p c : Nat} (h : (freeL ts f m)[p]? = some c) :
    ((growL n ts ss g f m wanted p).map V.int).set c (.int (max (growP ts ss g f m wanted p c) (partA (wanted - sliceSum ss f m) (freeL ts f m).length p))) = (growL n ts ss g f m wanted (p + 1)).map V.int := by
  apply List.ext_getElem?
  intro i
  rw [List.getElem?_set, List.getElem?_map, List.getElem?_map, List.getElem?_map, List.getElem?_map]
  by_cases hi : i < n
  · rw [range_get hi]
    by_cases hci : c = i
    · subst hci
      rw [if_pos rfl, if_pos (by rw [List.length_map, List.length_map, List.length_range]; exact hi)]
      show _ = some (V.int (growP ts ss g f m wanted (p + 1) c))
      rw [growP_succ h, if_pos rfl]
    · rw [if_neg hci]
      show some (V.int (growP ts ss g f m wanted p i)) = some (V.int (growP ts ss g f m wanted (p + 1) i))
      rw [growP_succ h, if_neg (fun e => hci e.symm)]
  · rw [List.getElem?_eq_none (by rw [List.length_range]; omega)]
    by_cases hci : c = i
    · subst hci
      rw [if_pos rfl, if_neg (by rw [List.length_map, List.length_map, List.length_range]; exact hi)]; rfl
    · rw [if_neg hci]; rfl
theorem AskAt.but {H H' : Hp} {v : V} {q : Ask3} {a : Addr} {xs : List V} (h : AskAt H v q) (g : H a = some (.lst xs)) (b : But a H H') : AskAt H' v q := let ⟨r, e, g2⟩ := h; ⟨r, e, b.app (fun z => by rw [z, g] at g2; cases g2) g2⟩
theorem grow1_nonneg {n : Nat} {ts : List Tk} {gap : Int} {ss : List Int} {many : Nat} {g : List Int} {q : Ask3} (h : ∀ z ∈ g, 0 ≤ z) : ∀ z ∈ grow1 n ts gap ss many g q, 0 ≤ z := fun z hz => by
  unfold grow1 at hz
  split at hz
  · unfold growM at hz
    obtain ⟨i, _, rfl⟩ := List.mem_map.mp hz
    have := pA_nonneg ts ss q.1 q.2.1 (q.2.2 - gap * ((many : Int) - 1)) i
    omega
  · exact h z hz
theorem grown_nonneg {n : Nat} {ts : List Tk} {gap : Int} {ss : List Int} {many : Nat} : ∀ (qs : List Ask3) (g : List Int), (∀ z ∈ g, 0 ≤ z) → ∀ z ∈ qs.foldl (grow1 n ts gap ss many) g, 0 ≤ z
  | [], g, h => h
  | q :: qs, g, h => grown_nonneg qs _ (grow1_nonneg h)
theorem foldl_take {α β : Type} {f : β → α → β} {l : List α} {x : β} {i : Nat} {a : α} (h : l[i]? = some a) : (l.take (i + 1)).foldl f x = f ((l.take i).foldl f x) a := by
  rw [List.take_add_one, h, List.foldl_append]; rfl
theorem stepM_V {ts : List Tk} {qs : List Ask3} {gap : Int} {ss : List Int} {many : Nat} : (List.range ts.length).map (fun i => V.int (wAt ss i + wAt (grownM ts qs gap ss many) i)) = (stepM ts qs gap ss many).map V.int := by
  unfold stepM
  rw [List.map_map]; rfl
theorem AsksAt.but {H H' : Hp} {vs : List V} {qs : List Ask3} {a : Addr} {xs : List V} (h : AsksAt H vs qs) (g : H a = some (.lst xs)) (b : But a H H') : AsksAt H' vs qs := ⟨h.1, fun i v q x y => (h.2 i v q x y).but g b⟩
theorem TksAt.dr {H H' : Hp} {vs : List V} {ts : List Tk} {a : Addr} (h : TksAt H vs ts) (hs : Src H a) (d : Dr a H H') : TksAt H' vs ts := let ⟨_, e⟩ := hs; h.but e d.b
theorem AsksAt.dr {H H' : Hp} {vs : List V} {qs : List Ask3} {a : Addr} (h : AsksAt H vs qs) (hs : Src H a) (d : Dr a H H') : AsksAt H' vs qs := let ⟨_, e⟩ := hs; h.but e d.b
theorem TkAt.dr {H H' : Hp} {v : V} {t : Tk} {a : Addr} (h : TkAt H v t) (hs : Src H a) (d : Dr a H H') : TkAt H' v t := let ⟨_, e⟩ := hs; h.but e d.b
theorem AsksAt.snoc {H : Hp} {vs : List V} {qs : List Ask3} {v : V} {q : Ask3} (h : AsksAt H vs qs) (hv : AskAt H v q) : AsksAt H (vs ++ [v]) (qs ++ [q]) := by
  have l := h.1
  refine ⟨by simp [l], fun i x y hx hy => ?_⟩
  by_cases hi : i < vs.length
  · rw [List.getElem?_append_left hi] at hx
    rw [List.getElem?_append_left (by omega)] at hy
    exact h.2 i x y hx hy
  · have : i = vs.length := by
      have := (List.getElem?_eq_some_iff.mp hx).1
      simp at this; omega
    subst this
    rw [List.getElem?_concat_length] at hx
    rw [l, List.getElem?_concat_length] at hy
    cases hx; cases hy; exact hv
theorem both_shaped (ts : List Tk) (qs : List Ask3) : SeqAt.shaped (.list [.list (ts.map tkD), .list (qs.map askD)]) = true := by
  unfold SeqAt.shaped
  have c1 := canLayAll0_map (g := tkD) (fun x => (tkD_can x).1) ts
  have c2 := canLayAll0_map (g := askD) (fun x => (askD_can x).1) qs
  have d1 := depthAll_map (g := tkD) (m := 1) (fun x => (tkD_can x).2) ts
  have d2 := depthAll_map (g := askD) (m := 1) (fun x => (askD_can x).2) qs
  rw [Bool.and_eq_true]
  refine ⟨by simp only [PyData.canLay0, PyData.canLayAll0, c1, c2, Bool.and_self], decide_eq_true ?_⟩
  simp only [PyData.depth, PyData.depthAll]; omega
theorem both_same (ts : List Tk) (qs : List Ask3) : PyData.eqv (.list [.list (ts.map tkD), .list (qs.map askD)]) (.list [.list (ts.map tkD), .list (qs.map askD)]) = true := by
  have n : nob (.list [.list (ts.map tkD), .list (qs.map askD)]) = true := by
    have h1 := nobAll_map (g := tkD) tkD_nob ts
    have h2 := nobAll_map (g := askD) askD_nob qs
    simp only [nob, nobAll, h1, h2, Bool.and_self]
  exact (eqv_iff n n).mpr rfl
end My

/-! ### tracks: asks reached, asks in another order: plain mathematics -/
namespace My
open PySem L2
theorem trackM_rev (ts : List Tk) (qs : List Ask3) (gap : Int) : trackM ts qs.reverse gap = trackM ts qs gap := by
  have h : ∀ ss many, stepM ts qs.reverse gap ss many = stepM ts qs gap ss many := fun ss many => by
    unfold stepM
    refine List.map_congr_left fun i hi => ?_
    have hi := List.mem_range.mp hi
    rw [grownM_at hi, grownM_at hi]
    congr 1
    refine maxF_perm fun y => ?_
    unfold dealsA
    rw [List.filter_reverse, List.map_reverse, List.mem_reverse]
  unfold trackM
  have e : (fun s k => stepM ts qs.reverse gap s (k + 1)) = (fun s k => stepM ts qs gap s (k + 1)) := by
    funext s k
    exact h s (k + 1)
  rw [e]
abbrev seg (f m : Nat) : List Nat := (List.range m).map fun k => f + k
theorem seg_mem {f m i : Nat} : i ∈ seg f m ↔ f ≤ i ∧ i < f + m := by
  rw [List.mem_map]
  constructor
  · rintro ⟨k, hk, rfl⟩
    have := List.mem_range.mp hk
    omega
  · intro h
    exact ⟨i - f, List.mem_range.mpr (by omega), by omega⟩
theorem slice_S {ss : List Int} {f : Nat} : ∀ {m : Nat}, f + m ≤ ss.length → sliceSum ss f m = S (wAt ss) (seg f m) := by
  intro m
  induction m with
  | zero => intro _; unfold sliceSum; simp [S]
  | succ m ih =>
    intro h
    have h2 := ih (by omega)
    have e1 : seg f (m + 1) = seg f m ++ [f + m] := by unfold seg; rw [List.range_succ, List.map_append]; rfl
    rw [e1, S_append, ← h2]
    unfold sliceSum
    have e2 : (ss.take (f + (m + 1))) = ss.take (f + m) ++ [wAt ss (f + m)] := by
      rw [← Nat.add_assoc, List.take_add_one, List.getElem?_eq_getElem (by omega : f + m < ss.length)]
      congr 1
      unfold wAt
      rw [List.getD_eq_getElem?_getD, List.getElem?_eq_getElem (by omega : f + m < ss.length)]; rfl
    rw [e2, List.drop_append_of_le_length (by rw [List.length_take]; omega), List.sum_append]
    rfl
theorem parts_all (lack : Int) {L : Nat} (hL : 0 < L) : S (fun j => partA lack L j) (List.range L) = lack := by
  have key : ∀ n, S (fun j => partA lack L j) (List.range n) = lack * (n : Int) / (L : Int) := by
    intro n
    induction n with
    | zero => simp [S]
    | succ n ih =>
      rw [List.range_succ, S_append, ih, S_cons, S_nil]
      unfold partA
      have : ((n + 1 : Nat) : Int) = (n : Int) + 1 := by omega
      rw [this]; omega
  rw [key, Int.mul_ediv_cancel _ (by omega)]
theorem pA_sum {ts : List Tk} {ss : List Int} {f m : Nat} {wanted : Int} (hl : 0 < wanted - sliceSum ss f m) (hne : freeL ts f m ≠ []) : S (pA ts ss f m wanted) (seg f m) = wanted - sliceSum ss f m := by
  have hL : 0 < (freeL ts f m).length := List.length_pos_iff.mpr hne
  rw [S_split _ (tkF ts)]
  have e0 : S (pA ts ss f m wanted) ((seg f m).filter fun i => !tkF ts i) = 0 := by
    have : S (pA ts ss f m wanted) ((seg f m).filter fun i => !tkF ts i) = S (fun _ => 0 * 0) ((seg f m).filter fun i => !tkF ts i) := S_congr fun i hi => by
      have h := (List.mem_filter.mp hi).2
      unfold pA
      rw [if_neg (fun z => ?_)]; rfl
      have := (freeL_mem.mp z.1).2.2
      rw [this] at h; cases h
    rw [this, S_mul, Int.zero_mul]
  have e1 : S (pA ts ss f m wanted) ((seg f m).filter (tkF ts)) = S (fun j => partA (wanted - sliceSum ss f m) (freeL ts f m).length j) (List.range (freeL ts f m).length) := by
    show ((freeL ts f m).map _).sum = _
    unfold S
    congr 1
    apply List.ext_getElem?
    intro j
    rw [List.getElem?_map, List.getElem?_map]
    by_cases hj : j < (freeL ts f m).length
    · rw [List.getElem?_eq_getElem hj, range_get hj]
      show some (pA ts ss f m wanted (freeL ts f m)[j]) = some _
      unfold pA
      rw [if_pos ⟨List.getElem_mem _, hl⟩, idxOf_at (freeL_nodup ts f m) (List.getElem?_eq_getElem hj)]
    · rw [List.getElem?_eq_none (by omega), List.getElem?_eq_none (by rw [List.length_range]; omega)]; rfl
  rw [e0, e1, parts_all _ hL]; omega
theorem step_ge {ts : List Tk} {qs : List Ask3} {gap : Int} {k i : Nat} (hi : i < ts.length) : wAt (stepsM ts qs gap k) i ≤ wAt (stepsM ts qs gap (k + 1)) i := by
  rw [stepsM_succ, stepM_at hi, grownM_at hi]
  have : 0 ≤ maxF 0 (dealsA ts qs gap (stepsM ts qs gap k) (k + 1) i) := maxF_ge
  omega
theorem steps_ge {ts : List Tk} {qs : List Ask3} {gap : Int} {i : Nat} (hi : i < ts.length) : ∀ (d k : Nat), wAt (stepsM ts qs gap k) i ≤ wAt (stepsM ts qs gap (k + d)) i
  | 0, _ => Int.le_refl _
  | d + 1, k => Int.le_trans (steps_ge hi d k) (step_ge hi)
/-- each ask that has a track that isn't of so many cells has its size at least -/
theorem ask_reached {ts : List Tk} {qs : List Ask3} {gap : Int} {q : Ask3} (hq : q ∈ qs) (ok : AskOk ts.length q) (hne : freeL ts q.1 q.2.1 ≠ []) : q.2.2 ≤ sliceSum (trackM ts qs gap) q.1 q.2.1 + gap * ((q.2.1 : Int) - 1) := by
  obtain ⟨o1, o2, o3⟩ := ok
  obtain ⟨f, m, size⟩ := q
  have o1 : 1 ≤ m := o1
  obtain ⟨k, rfl⟩ : ∃ k, m = k + 1 := ⟨m - 1, by omega⟩
  have o1 : 1 ≤ k + 1 := o1
  have o2 : f + (k + 1) ≤ ts.length := o2
  show size ≤ sliceSum (trackM ts qs gap) f (k + 1) + gap * (((k + 1 : Nat) : Int) - 1)
  have hne : freeL ts f (k + 1) ≠ [] := hne
  have e : trackM ts qs gap = stepsM ts qs gap ((k + 1) + (ts.length - (k + 1))) := by
    rw [show (k + 1) + (ts.length - (k + 1)) = ts.length by omega]; rfl
  have l1 : ∀ j, (stepsM ts qs gap j).length = ts.length := stepsM_len ts qs gap
  rw [e, slice_S (by rw [l1]; exact o2)]
  have h1 : S (wAt (stepsM ts qs gap (k + 1))) (seg f (k + 1)) ≤ S (wAt (stepsM ts qs gap ((k + 1) + (ts.length - (k + 1))))) (seg f (k + 1)) := S_le fun i hi => by
    have := seg_mem.mp hi
    exact steps_ge (by omega) _ _
  obtain ⟨wd, hwd⟩ : ∃ wd, wd = size - gap * (((k + 1 : Nat) : Int) - 1) := ⟨_, rfl⟩
  have h2 : S (wAt (stepsM ts qs gap k)) (seg f (k + 1)) + S (pA ts (stepsM ts qs gap k) f (k + 1) wd) (seg f (k + 1)) ≤ S (wAt (stepsM ts qs gap (k + 1))) (seg f (k + 1)) := by
    have : S (fun i => wAt (stepsM ts qs gap k) i + pA ts (stepsM ts qs gap k) f (k + 1) wd i) (seg f (k + 1)) = S (wAt (stepsM ts qs gap k)) (seg f (k + 1)) + S (pA ts (stepsM ts qs gap k) f (k + 1) wd) (seg f (k + 1)) := by
      have add : ∀ R : List Nat, S (fun i => wAt (stepsM ts qs gap k) i + pA ts (stepsM ts qs gap k) f (k + 1) wd i) R = S (wAt (stepsM ts qs gap k)) R + S (pA ts (stepsM ts qs gap k) f (k + 1) wd) R := fun R => by
        induction R with
        | nil => rfl
        | cons i R ih => rw [S_cons, S_cons, S_cons, ih]; omega
      exact add _
    rw [← this]
    refine S_le fun i hi => ?_
    have hi := seg_mem.mp hi
    rw [stepsM_succ, stepM_at (by omega), grownM_at (by omega)]
    have : pA ts (stepsM ts qs gap k) f (k + 1) wd i ≤ maxF 0 (dealsA ts qs gap (stepsM ts qs gap k) (k + 1) i) := by
      refine maxF_all ?_
      unfold dealsA
      refine List.mem_map.mpr ⟨(f, k + 1, size), List.mem_filter.mpr ⟨hq, decide_eq_true rfl⟩, ?_⟩
      rw [hwd]
    omega
  have h3 : sliceSum (stepsM ts qs gap k) f (k + 1) = S (wAt (stepsM ts qs gap k)) (seg f (k + 1)) := slice_S (by rw [l1]; exact o2)
  by_cases hl : 0 < wd - sliceSum (stepsM ts qs gap k) f (k + 1)
  · rw [pA_sum hl hne] at h2
    omega
  · have h4 : 0 ≤ S (pA ts (stepsM ts qs gap k) f (k + 1) wd) (seg f (k + 1)) := S_nonneg fun i _ => pA_nonneg ..
    omega
theorem AsksAt.rev {H : Hp} {vs : List V} {qs : List Ask3} (h : AsksAt H vs qs) : AsksAt H vs.reverse qs.reverse := by
  have l := h.1
  refine ⟨by rw [List.length_reverse, List.length_reverse, l], fun i v q hv hq => ?_⟩
  have hi := (List.getElem?_eq_some_iff.mp hv).1
  rw [List.length_reverse] at hi
  rw [List.getElem?_reverse hi] at hv
  rw [List.getElem?_reverse (by omega), ← l] at hq
  exact h.2 _ v q hv hq
theorem natI_ne {l : List Nat} : (!decide (natI l = [])) = !decide (l = []) := by
  rw [decide_eq_decide.mpr natI_nil]
end My

/-! ### tracks and asks that may be none -/
namespace My
open PySem L2
def flatD : PyData → Bool
  | .none => true
  | .bool _ => true
  | .int _ => true
  | .str _ => true
  | _ => false
def flV : PyData → V
  | .none => .non
  | .bool b => .bl b
  | .int i => .int i
  | .str s => .str s
  | _ => .non
def tyD : PyData → String
  | .none => "NoneType"
  | .bool _ => "bool"
  | .int _ => "int"
  | .str _ => "str"
  | .list _ => "list"
  | .tuple _ => "tuple"
  | .dict _ => "dict"
inductive It (H : Hp) : V → PyData → Prop
  | fl (d : PyData) (f : flatD d = true) : It H (flV d) d
  | tup {r : Addr} {ds : List PyData} (g : H r = some (.tup (ds.map flV))) (f : ds.all flatD = true) : It H (.ref r) (.tuple ds)
  | lst {r : Addr} {ds : List PyData} (g : H r = some (.lst (ds.map flV))) (f : ds.all flatD = true) : It H (.ref r) (.list ds)
section
variable {H H' : Hp} {v : V} {d : PyData}
theorem fl_t7 : ∀ {d : PyData}, flatD d = true → Ty7 H (flV d) (tyD d)
  | .none, _ => .non
  | .bool b, _ => .bl b
  | .int i, _ => .int i
  | .str s, _ => .str s
  | .list _, h => by cases h
  | .tuple _, h => by cases h
  | .dict _, h => by cases h
theorem It.t7 (h : It H v d) : Ty7 H v (tyD d) := by
  cases h with
  | fl _ f => exact fl_t7 f
  | tup g _ => exact .tup g
  | lst g _ => exact .lst g
theorem It.mono (h : It H v d) (s : Same H H') : It H' v d := by
  cases h with
  | fl _ f => exact .fl _ f
  | tup g f => exact .tup (s _ _ g) f
  | lst g f => exact .lst (s _ _ g) f
theorem It.but {a : Addr} (h : It H v d) (b : But a H H') (n : v ≠ .ref a) : It H' v d := by
  cases h with
  | fl _ f => exact .fl _ f
  | tup g f => exact .tup (b.app (fun e => n (by rw [e])) g) f
  | lst g f => exact .lst (b.app (fun e => n (by rw [e])) g) f
theorem fl_dp {K : PySem.W.Frag} : ∀ {d : PyData}, flatD d = true → Dp K H (flV d) d
  | .none, _ => .non
  | .bool b, _ => .bl b
  | .int i, _ => .int i
  | .str s, _ => .str s
  | .list _, h => by cases h
  | .tuple _, h => by cases h
  | .dict _, h => by cases h
theorem fl_dps {K : PySem.W.Frag} : ∀ {ds : List PyData}, ds.all flatD = true → DpAll K H (ds.map flV) ds
  | [], _ => .nil
  | d :: ds, h => by
    rw [List.all_cons, Bool.and_eq_true] at h
    exact .cons (fl_dp h.1) (fl_dps h.2)
theorem It.dp {K : PySem.W.Frag} (h : It H v d) : Dp K H v d := by
  cases h with
  | fl _ f => exact fl_dp f
  | tup g f => exact .tup (sqT g) (fl_dps f)
  | lst g f => exact .lst (sqL g) (fl_dps f)
/-- flat, or an object -/
theorem It.kind (h : It H v d) : flatB v = true ∨ ∃ r, v = .ref r := by
  cases h with
  | fl d f => cases d <;> first | exact .inl rfl | cases f
  | tup g f => exact .inr ⟨_, rfl⟩
  | lst g f => exact .inr ⟨_, rfl⟩
end
/-! #### what is a track, an ask -/
def isP : V → Bool
  | .int k => decide (1 ≤ k)
  | _ => false
def trackB : PyData → Bool
  | .tuple [a, b] => decide (flV a = .str "share") && isP (flV b)
  | .tuple _ => false
  | .list _ => false
  | .dict _ => false
  | d => isN (flV d) || decide (flV d = .str "fit")
def strD : PyData → Bool
  | .str _ => true
  | _ => false
/-- its first item can be compared; it can be laid -/
def fineD (d : PyData) : Bool := d.canLay0 && decide (d.depth ≤ 1) && (match d with
  | .tuple [a, _] => strD a
  | _ => true)
def stretchB (n : Int) : V → V → Bool
  | .int f, .int m => decide (0 ≤ f) && decide (1 ≤ m) && decide (f + m ≤ n)
  | _, _ => false
def askB (n : Int) : PyData → Bool
  | .tuple [a, b, c] => stretchB n (flV a) (flV b) && isN (flV c)
  | _ => false
def ItsAt (H : Hp) (vs : List V) (ds : List PyData) : Prop := vs.length = ds.length ∧ ∀ (i : Nat) (v : V) (d : PyData), vs[i]? = some v → ds[i]? = some d → It H v d
section
variable {H H' : Hp} {vs : List V} {ds : List PyData} {v : V} {d : PyData}
theorem ItsAt.mono (h : ItsAt H vs ds) (s : Same H H') : ItsAt H' vs ds := ⟨h.1, fun i v d a b => (h.2 i v d a b).mono s⟩
theorem ItsAt.but {a : Addr} (h : ItsAt H vs ds) (b : But a H H') (n : ∀ v ∈ vs, v ≠ .ref a) : ItsAt H' vs ds := ⟨h.1, fun i v d x y => (h.2 i v d x y).but b (n v (List.mem_of_getElem? x))⟩
theorem ItsAt.at' (h : ItsAt H vs ds) {i : Nat} (e : vs[i]? = some v) : ∃ d, ds[i]? = some d ∧ It H v d := by
  have hi := (List.getElem?_eq_some_iff.mp e).1
  have l := h.1
  exact ⟨ds[i], List.getElem?_eq_getElem (by omega), h.2 i v _ e (List.getElem?_eq_getElem (by omega))⟩
theorem ItsAt.dp {K : PySem.W.Frag} : ∀ {vs : List V} {ds : List PyData}, ItsAt H vs ds → DpAll K H vs ds
  | [], [], _ => .nil
  | [], _ :: _, h => by cases h.1
  | _ :: _, [], h => by cases h.1
  | v :: vs, d :: ds, h => .cons (h.2 0 v d rfl rfl).dp (ItsAt.dp ⟨by simpa using h.1, fun i w e a b => h.2 (i + 1) w e a b⟩)
theorem ItsAt.kind (h : ItsAt H vs ds) : ∀ v ∈ vs, flatB v = true ∨ ∃ r, v = .ref r := fun v hv => by
  obtain ⟨i, hi⟩ := List.getElem?_of_mem hv
  obtain ⟨d, _, hd⟩ := h.at' hi
  exact hd.kind
theorem ItsAt.set (h : ItsAt H vs ds) (i : Nat) (hv : It H v d) : ItsAt H (vs.set i v) (ds.set i d) := by
  refine ⟨by rw [List.length_set, List.length_set]; exact h.1, fun j w e a b => ?_⟩
  by_cases hj : i = j
  · subst hj
    have l := (List.getElem?_eq_some_iff.mp a).1
    have l2 := (List.getElem?_eq_some_iff.mp b).1
    rw [List.length_set] at l l2
    rw [List.getElem?_set_self l] at a
    rw [List.getElem?_set_self l2] at b
    cases a; cases b
    exact hv
  · rw [List.getElem?_set_ne hj] at a b
    exact h.2 j w e a b
theorem ItsAt.append {us : List V} {es : List PyData} (h : ItsAt H vs ds) (g : ItsAt H us es) : ItsAt H (vs ++ us) (ds ++ es) := by
  refine ⟨by rw [List.length_append, List.length_append, h.1, g.1], fun j w e a b => ?_⟩
  by_cases hj : j < vs.length
  · rw [List.getElem?_append_left hj] at a
    rw [List.getElem?_append_left (by have := h.1; omega)] at b
    exact h.2 j w e a b
  · rw [List.getElem?_append_right (by omega)] at a
    rw [List.getElem?_append_right (by have := h.1; omega), ← h.1] at b
    exact g.2 _ w e a b
theorem ItsAt.take (h : ItsAt H vs ds) (n : Nat) : ItsAt H (vs.take n) (ds.take n) := by
  refine ⟨by rw [List.length_take, List.length_take, h.1], fun j w e a b => ?_⟩
  rw [List.getElem?_take] at a b
  split at a
  · next q => rw [if_pos q] at b; exact h.2 j w e a b
  · cases a
theorem ItsAt.drop (h : ItsAt H vs ds) (n : Nat) : ItsAt H (vs.drop n) (ds.drop n) := by
  refine ⟨by rw [List.length_drop, List.length_drop, h.1], fun j w e a b => ?_⟩
  rw [List.getElem?_drop] at a b
  exact h.2 _ w e a b
theorem ItsAt.one (hv : It H v d) : ItsAt H [v] [d] := ⟨rfl, fun i w e a b => by
  cases i with
  | zero => cases a; cases b; exact hv
  | succ i => cases a⟩
end
/-! #### good ones -/
section
variable {H H' : Hp} {v : V}
theorem tk_it {t : Tk} (h : TkAt H v t) : It H v (tkD t) := by
  cases t with
  | cells n => have e : v = .int n := h; subst e; exact .fl (.int n) rfl
  | fit => have e : v = .str "fit" := h; subst e; exact .fl (.str "fit") rfl
  | share k => obtain ⟨r, rfl, g⟩ := h; exact .tup (ds := [.str "share", .int k]) g rfl
theorem tk_fine (t : Tk) : fineD (tkD t) = true := by
  have := tkD_can t
  unfold fineD
  rw [this.1, decide_eq_true this.2]
  cases t <;> rfl
theorem tk_ok {t : Tk} (h : t.ok) : trackB (tkD t) = true := by
  cases t with
  | cells n => show (decide (0 ≤ n) || _) = true; rw [decide_eq_true (show 0 ≤ n from h)]; rfl
  | fit => rfl
  | share k =>
    show (decide (V.str "share" = V.str "share") && decide (1 ≤ k)) = true
    rw [decide_eq_true (show 1 ≤ k from h), decide_eq_true rfl]; rfl
theorem ask_it {q : Ask3} (h : AskAt H v q) : It H v (askD q) := by
  obtain ⟨r, rfl, g⟩ := h
  exact .tup (ds := [.int (q.1 : Int), .int (q.2.1 : Int), .int q.2.2]) g rfl
theorem ask_ok {n : Nat} {q : Ask3} (h : AskOk n q) : askB (n : Int) (askD q) = true := by
  obtain ⟨o1, o2, o3⟩ := h
  show (decide ((0 : Int) ≤ (q.1 : Int)) && decide ((1 : Int) ≤ (q.2.1 : Int)) && decide ((q.1 : Int) + (q.2.1 : Int) ≤ (n : Int)) && decide (0 ≤ q.2.2)) = true
  rw [decide_eq_true (by omega), decide_eq_true (by omega), decide_eq_true (by omega), decide_eq_true o3]; rfl
theorem tks_its {vs : List V} {ts : List Tk} (h : TksAt H vs ts) : ItsAt H vs (ts.map tkD) := by
  refine ⟨by rw [List.length_map]; exact h.1, fun i v d a b => ?_⟩
  obtain ⟨t, ht, hat⟩ := h.at' a
  rw [List.getElem?_map, ht] at b
  cases b
  exact tk_it hat
theorem asks_its {vs : List V} {qs : List Ask3} (h : AsksAt H vs qs) : ItsAt H vs (qs.map askD) := by
  refine ⟨by rw [List.length_map]; exact h.1, fun i v d a b => ?_⟩
  obtain ⟨t, ht, hat⟩ := h.at' a
  rw [List.getElem?_map, ht] at b
  cases b
  exact ask_it hat
end
/-! #### lists of them -/
inductive TrsAt (H : Hp) : V → Bool → Prop
  | no {t : V} {ty : String} (h : Ty7 H t ty) (n : ty ≠ "list") : TrsAt H t false
  | lst {a : Addr} {xs : List V} {ds : List PyData} {b : Bool} (g : H a = some (.lst xs)) (its : ItsAt H xs ds) (f : ∀ d ∈ ds, fineD d = true) (n : ds.length ≤ 1000) (e : b = (!ds.isEmpty && ds.all trackB)) : TrsAt H (.ref a) b
inductive AsksB (H : Hp) (n : Int) : V → Bool → Prop
  | no {t : V} {ty : String} (h : Ty7 H t ty) (nl : ty ≠ "list") : AsksB H n t false
  | lst {a : Addr} {xs : List V} {ds : List PyData} {b : Bool} (g : H a = some (.lst xs)) (its : ItsAt H xs ds) (l : ds.length ≤ 1000) (e : b = ds.all (askB n)) : AsksB H n (.ref a) b
section
variable {H H' : Hp} {v : V} {b : Bool}
theorem TrsAt.mono (h : TrsAt H v b) (s : Same H H') : TrsAt H' v b := by
  cases h with
  | no h n => exact .no (h.mono s) n
  | lst g its f n e => exact .lst (s _ _ g) (its.mono s) f n e
theorem AsksB.mono {n : Int} (h : AsksB H n v b) (s : Same H H') : AsksB H' n v b := by
  cases h with
  | no h n => exact .no (h.mono s) n
  | lst g its l e => exact .lst (s _ _ g) (its.mono s) l e
theorem trs_good {a : Addr} {xs : List V} {ts : List Tk} (g : H a = some (.lst xs)) (h : TksAt H xs ts) (ok : ∀ t ∈ ts, t.ok) (ne : ts ≠ []) (n : ts.length ≤ 1000) : TrsAt H (.ref a) true := by
  refine .lst g (tks_its h) (fun d hd => ?_) (by rw [List.length_map]; exact n) ?_
  · obtain ⟨t, _, rfl⟩ := List.mem_map.mp hd
    exact tk_fine t
  · have e1 : (ts.map tkD).all trackB = true := List.all_eq_true.mpr fun d hd => by
      obtain ⟨t, ht, rfl⟩ := List.mem_map.mp hd
      exact tk_ok (ok t ht)
    rw [e1]
    cases ts with
    | nil => exact absurd rfl ne
    | cons t ts => rfl
theorem asks_good {a : Addr} {n : Nat} {xs : List V} {qs : List Ask3} (g : H a = some (.lst xs)) (h : AsksAt H xs qs) (ok : ∀ q ∈ qs, AskOk n q) (l : qs.length ≤ 1000) : AsksB H (n : Int) (.ref a) true := by
  refine .lst g (asks_its h) (by rw [List.length_map]; exact l) ?_
  exact (List.all_eq_true.mpr fun d hd => by
      obtain ⟨q, hq, rfl⟩ := List.mem_map.mp hd
      exact ask_ok (ok q hq)).symm
end
/-- good tracks -/
structure Gt (H : Hp) (t : V) (ts : List Tk) : Prop where
  ex : ∃ a xs, t = .ref a ∧ H a = some (.lst xs) ∧ TksAt H xs ts
  ok : ∀ t ∈ ts, t.ok
  ne : ts ≠ []
  n : ts.length ≤ 1000
structure Ga (H : Hp) (n : Nat) (t : V) (qs : List Ask3) : Prop where
  ex : ∃ a xs, t = .ref a ∧ H a = some (.lst xs) ∧ AsksAt H xs qs
  ok : ∀ q ∈ qs, AskOk n q
  n : qs.length ≤ 1000
/-- how a call ends: 0 told, 1 no track, 2 no ask, 3 no number -/
inductive Way (H : Hp) (t a g : V) : Nat → Prop
  | told {ts : List Tk} {qs : List Ask3} {k : Int} (h : Gt H t ts) (ha : Ga H ts.length a qs) (e : g = .int k) (k0 : 0 ≤ k) : Way H t a g 0
  | track (h : TrsAt H t false) : Way H t a g 1
  | ask {ts : List Tk} (h : Gt H t ts) (ha : AsksB H (ts.length : Int) a false) : Way H t a g 2
  | number {ts : List Tk} {qs : List Ask3} {ty : String} (h : Gt H t ts) (ha : Ga H ts.length a qs) (e : Ty7 H g ty) (n : isN g = false) : Way H t a g 3
section
variable {H H' : Hp} {t a g : V} {w : Nat}
theorem Gt.mono {ts : List Tk} (h : Gt H t ts) (s : Same H H') : Gt H' t ts := ⟨let ⟨a, xs, e, g, k⟩ := h.ex; ⟨a, xs, e, s _ _ g, k.mono s⟩, h.ok, h.ne, h.n⟩
theorem Ga.mono {n : Nat} {qs : List Ask3} (h : Ga H n t qs) (s : Same H H') : Ga H' n t qs := ⟨let ⟨a, xs, e, g, k⟩ := h.ex; ⟨a, xs, e, s _ _ g, k.mono s⟩, h.ok, h.n⟩
theorem Gt.trs {ts : List Tk} (h : Gt H t ts) : TrsAt H t true := by
  obtain ⟨a, xs, rfl, g, k⟩ := h.ex
  exact trs_good g k h.ok h.ne h.n
theorem Ga.asks {n : Nat} {qs : List Ask3} (h : Ga H n t qs) : AsksB H (n : Int) t true := by
  obtain ⟨a, xs, rfl, g, k⟩ := h.ex
  exact asks_good g k h.ok h.n
theorem Way.mono (h : Way H t a g w) (s : Same H H') : Way H' t a g w := by
  cases h with
  | told h ha e k0 => exact .told (h.mono s) (ha.mono s) e k0
  | track h => exact .track (h.mono s)
  | ask h ha => exact .ask (h.mono s) (ha.mono s)
  | number h ha e n => exact .number (h.mono s) (ha.mono s) (e.mono s) n
end
end My
namespace My
open PySem L2
def trackAt (ds : List PyData) (i : Nat) : Bool := match ds[i]? with
  | some d => trackB d
  | none => false
theorem trackAt_of {ds : List PyData} {i : Nat} {d : PyData} (h : ds[i]? = some d) : trackAt ds i = trackB d := by unfold trackAt; rw [h]
theorem at_all {f : PyData → Bool} {g : Nat → Bool} {ds : List PyData} (h : ∀ i d, ds[i]? = some d → g i = f d) : (List.range ds.length).map g = ds.map f := by
  apply List.ext_getElem?
  intro i
  rw [List.getElem?_map, List.getElem?_map]
  by_cases hi : i < ds.length
  · rw [List.getElem?_range hi, List.getElem?_eq_getElem hi]
    show some (g i) = some (f ds[i])
    rw [h i _ (List.getElem?_eq_getElem hi)]
  · rw [List.getElem?_eq_none (by rw [List.length_range]; omega), List.getElem?_eq_none (by omega)]; rfl
theorem trackAt_all {ds : List PyData} : (List.range ds.length).map (fun i => trackAt ds i) = ds.map trackB := at_all fun i d h => trackAt_of h
def askAt (n : Int) (ds : List PyData) (i : Nat) : Bool := match ds[i]? with
  | some d => askB n d
  | none => false
theorem askAt_of {n : Int} {ds : List PyData} {i : Nat} {d : PyData} (h : ds[i]? = some d) : askAt n ds i = askB n d := by unfold askAt; rw [h]
theorem askAt_all {n : Int} {ds : List PyData} : (List.range ds.length).map (fun i => askAt n ds i) = ds.map (askB n) := at_all fun i d h => askAt_of h
theorem fine_shaped {ds : List PyData} (h : ∀ d ∈ ds, fineD d = true) : SeqAt.shaped (.list ds) = true := by
  have f1 : ∀ d : {d // fineD d = true}, d.1.canLay0 = true := fun d => by
    have := d.2; unfold fineD at this; rw [Bool.and_eq_true, Bool.and_eq_true] at this; exact this.1.1
  have f2 : ∀ d : {d // fineD d = true}, d.1.depth ≤ 1 := fun d => by
    have := d.2; unfold fineD at this; rw [Bool.and_eq_true, Bool.and_eq_true] at this; exact of_decide_eq_true this.1.2
  have := shaped_map (m := 1) (g := fun d : {d // fineD d = true} => d.1) (by decide) f1 f2 (ds.attachWith _ h)
  rwa [List.attachWith_map_subtype_val] at this
end My
namespace My
open PySem L2
theorem pick_all {P : V → Prop} {xs : List V} {n : Int} (h0 : 0 ≤ n) (h1 : n < xs.length) (h : ∀ x ∈ xs, P x) : ∃ x, atI xs n = some x ∧ P x := by
  obtain ⟨k, rfl⟩ := Int.eq_ofNat_of_zero_le h0
  have hk : k < xs.length := by omega
  exact ⟨xs[k], atI_nat (List.getElem?_eq_getElem hk), h _ (List.getElem_mem hk)⟩
theorem all_c {P : V → Prop} {x : V} {xs : List V} (h : P x) (t : ∀ y ∈ xs, P y) : ∀ y ∈ x :: xs, P y := List.forall_mem_cons.mpr ⟨h, t⟩
theorem all_n {P : V → Prop} : ∀ y ∈ ([] : List V), P y := fun _ h => by cases h
/-- a bad one that is new, by a test -/
def Bad (f : PyData → Bool) (H0 H : Hp) (v : V) : Prop := ∃ d, It H v d ∧ f d = true ∧ ∀ r, v = .ref r → H0 r = none
section
variable {f : PyData → Bool} {H0 H H' : Hp} {v : V}
theorem bad_fl (d : PyData) (h : flatD d = true) (b : f d = true) : Bad f H0 H (flV d) := ⟨d, .fl d h, b, fun r e => by cases d <;> first | (cases e; done) | cases h⟩
theorem bad_tup {r : Addr} (ds : List PyData) (g : H r = some (.tup (ds.map flV))) (h : ds.all flatD = true) (b : f (.tuple ds) = true) (n : H0 r = none) : Bad f H0 H (.ref r) := ⟨.tuple ds, .tup g h, b, fun r' e => by cases e; exact n⟩
theorem bad_lst {r : Addr} (ds : List PyData) (g : H r = some (.lst (ds.map flV))) (h : ds.all flatD = true) (b : f (.list ds) = true) (n : H0 r = none) : Bad f H0 H (.ref r) := ⟨.list ds, .lst g h, b, fun r' e => by cases e; exact n⟩
theorem Bad.dr {s : Addr} (h : Bad f H0 H v) (hs : Src H0 s) (d : Dr s H H') : Bad f H0 H' v := by
  obtain ⟨x, hi, b, n⟩ := h
  obtain ⟨z, hz⟩ := hs
  exact ⟨x, hi.but d.b (fun e => by rw [n s e] at hz; cases hz), b, n⟩
end
end My
namespace My
open PySem L2
theorem Bad.dr' {f : PyData → Bool} {H0 H H' : Hp} {v : V} {s : Addr} (h : Bad f H0 H v) (hs : Src H0 s) (_ : Src H s) (d : Dr s H H') : Bad f H0 H' v := h.dr hs d
end My
namespace My
open PySem L2
theorem pick_all' {P : V → Prop} {xs : List V} {n : Int} (h : ∀ x ∈ xs, P x) (h0 : 0 ≤ n) (h1 : n < xs.length) : ∃ x, atI xs n = some x ∧ P x := pick_all h0 h1 h
theorem ask_b1 (n : Int) : (!askB n (.tuple [.int 0, .int (n + 1), .int 5])) = true := by
  show (!(decide ((0 : Int) ≤ 0) && decide (1 ≤ n + 1) && decide (0 + (n + 1) ≤ n) && isN (.int 5))) = true
  rw [decide_eq_false (p := 0 + (n + 1) ≤ n) (by omega)]; simp
theorem ask_b2 (n : Int) : (!askB n (.tuple [.int n, .int 1, .int 5])) = true := by
  show (!(decide (0 ≤ n) && decide ((1 : Int) ≤ 1) && decide (n + 1 ≤ n) && isN (.int 5))) = true
  rw [decide_eq_false (p := n + 1 ≤ n) (by omega)]; simp
end My

/-! ### != of lists of like items: the same ones, or lists of the same ones -/
namespace My
open PySem PySem.Spec PyProof.Rows L2
def PlainQ (x : V) : Prop := flatB x = true ∨ ∃ r, x = .ref r
def EqQ (K : PySem.W.Frag) (H : Hp) (u v : V) : Prop := (u = v ∧ PlainQ u) ∨ ∃ a b zs, u = .ref a ∧ v = .ref b ∧ SqL K H a zs ∧ SqL K H b zs ∧ ∀ z ∈ zs, PlainQ z
def rNeQ (K : PySem.W.Frag) : R2 := fun x y H Q => ∃ a b xs ys, x = .ref a ∧ y = .ref b ∧ SqL K H a xs ∧ SqL K H b ys ∧ Paired (EqQ K H) xs ys ∧ Q (.bl false) H
theorem plainQ_at {A : Around} {s : Shared} {x : V} {u w : Value} (h : PlainQ x) (r : RelV x u) (r' : RelV x w) : SeqAt.EqAt A s u w true := by
  rcases h with h | ⟨a, rfl⟩
  · exact eqAt_same r r' h
  · cases (show u = Value.ref a from r)
    cases (show w = Value.ref a from r')
    exact SeqAt.EqAt.same _
theorem plainQ_all {A : Around} {s : Shared} : ∀ {xs : List V} {us ws : List Value}, (∀ x ∈ xs, PlainQ x) → Vals xs us → Vals xs ws → ∀ j (h1 : j < us.length) (h2 : j < ws.length), SeqAt.EqAt A s us[j] ws[j] true
  | _, _, _, _, .nil, .nil, j, h1, _ => absurd h1 (Nat.not_lt_zero j)
  | _, _, _, hp, .cons a1 b1, .cons a2 b2, 0, _, _ => plainQ_at (hp _ List.mem_cons_self) a1 a2
  | _, _, _, hp, .cons a1 b1, .cons a2 b2, j + 1, h1, h2 => plainQ_all (fun y hy => hp y (List.mem_cons_of_mem _ hy)) b1 b2 j (Nat.lt_of_succ_lt_succ h1) (Nat.lt_of_succ_lt_succ h2)
section
variable {X : Cx} {pins : List (Addr × Obj)} {σ : L2.St} {H : Hp} {s : Shared}
theorem eqQ_at (I : Inv X pins σ H s) {A : Around} (hu : A.units < cLine) {x y : V} {u w : Value} (h : EqQ X.K H x y) (r : RelV x u) (r' : RelV y w) : SeqAt.EqAt A s u w true := by
  rcases h with ⟨rfl, hp⟩ | ⟨a, b, zs, rfl, rfl, ha, hb, hp⟩
  · exact plainQ_at hp r r'
  · cases (show u = Value.ref a from r)
    cases (show w = Value.ref b from r')
    by_cases e : a = b
    · subst e; exact SeqAt.EqAt.same _
    · obtain ⟨us, r1, p1, _⟩ := I.list ha
      obtain ⟨ws, r2, p2, _⟩ := I.list hb
      have hsz : us.toArray.size = ws.toArray.size := by
        rw [List.size_toArray, List.size_toArray, ← r1.length, ← r2.length]
      refine SeqAt.EqAt.of_refs e ?_
      have k := SeqAt.RcAt.lists (e := fun _ => true) p1.isList p2.isList hsz hu (A := A) (fun j h1 h2 => by
        have := plainQ_all (A := A.in1) (s := s) hp r1 r2 j (by simpa using h1) (by simpa using h2)
        simpa using this)
      rwa [show ((List.range us.toArray.size).all fun _ => true) = true from List.all_eq_true.mpr fun _ _ => rfl] at k
theorem eqQ_all (I : Inv X pins σ H s) {A : Around} (hu : A.units < cLine) {xs ys : List V} (h : Paired (EqQ X.K H) xs ys) : ∀ {us ws : List Value}, Vals xs us → Vals ys ws → ∀ j (h1 : j < us.length) (h2 : j < ws.length), SeqAt.EqAt A s us[j] ws[j] true := by
  induction h with
  | nil =>
    intro us ws r1 r2 j h1 h2
    cases r1
    exact absurd h1 (Nat.not_lt_zero j)
  | cons h _ k =>
    intro us ws r1 r2 j h1 h2
    cases r1 with
    | cons a1 b1 =>
      cases r2 with
      | cons a2 b2 =>
        cases j with
        | zero => exact eqQ_at I hu h a1 a2
        | succ j => exact k b1 b2 j (Nat.lt_of_succ_lt_succ h1) (Nat.lt_of_succ_lt_succ h2)
end
theorem op_neQ {X : Cx} (hu : X.A.units + 64 < cLine) : OpR X (compareOp .NotEq) (rNeQ X.K) := by
  intro pins s σ H x y v u Q I rx ry h
  obtain ⟨a, b, xs, ys, rfl, rfl, ha, hb, hp, q⟩ := h
  cases (show v = Value.ref a from rx)
  cases (show u = Value.ref b from ry)
  obtain ⟨us, r1, p1, _⟩ := I.list ha
  obtain ⟨ws, r2, p2, _⟩ := I.list hb
  have hsz : us.toArray.size = ws.toArray.size := by
    rw [List.size_toArray, List.size_toArray, ← r1.length, ← r2.length]
    exact Paired.length hp
  have k := SeqAt.RcNeAt.lists (e := fun _ => true) p1.isList p2.isList hsz (show X.A.units < cLine by omega) (fun j h1 h2 => by
    have := eqQ_all I (A := X.A.in1) (show X.A.units + 1 < cLine by omega) hp r1 r2 j (by simpa using h1) (by simpa using h2)
    simpa using this)
  rw [show ((List.range us.toArray.size).all fun _ => true) = true from List.all_eq_true.mpr fun _ _ => rfl] at k
  exact k _ _ _ _ ⟨.bl false, H, I, rfl, q⟩
theorem op_neQK {X : Cx} {K : PySem.W.Frag} (hu : X.A.units + 64 < cLine) (h : X.K = K) : OpR X (compareOp .NotEq) (rNeQ K) := by subst h; exact op_neQ hu
theorem eqQ_refl {K : PySem.W.Frag} {H : Hp} : ∀ {xs : List V}, (∀ x ∈ xs, PlainQ x) → Paired (EqQ K H) xs xs
  | [], _ => .nil
  | x :: xs, h => .cons (.inl ⟨rfl, h x (List.mem_cons_self ..)⟩) (eqQ_refl fun y hy => h y (List.mem_cons_of_mem _ hy))
end My

/-! ### a plain thing != [] -/
namespace PySem.SeqAt
open MeetsSeq MeetsSeq2 MeetsSeq3
theorem my_list_ne_declines_dict (l b : Addr) (items : Array Value) (n : Nat) (dd : Option Addr) (sl : Array (Option Value)) (o : Obj) (ho : o.cls = .type "dict") :
    Meets (Builtin.«list.__ne__» ⟨[.ref l, .ref b], []⟩) (fun _ R s => s.heap.get? l = some { cls := .type "list", dict := dd, data := .seq items n, slots := sl } ∧ s.heap.get? b = some o ∧ R (.ok (.ret .notImplemented)) s) :=
  .of_wp fun prog w A R s h => by obtain ⟨hp, g, d, tk, os⟩ := s; obtain ⟨hl, hb, h⟩ := h; obtain ⟨cls, dd2, data2, sl2⟩ := o; subst ho; have f1 := F.sub_dict_list; wp_walk using _root_.PySem.AutoSeq1.wpAny_loadPart' hl, _root_.PySem.AutoSeq1.wpAny_loadPart' hb; exact ⟨_, rfl, h⟩
theorem my_dict_ne_declines {M : Unit} {prog : Program} {w : World} {A : Around} {E Q : Value → Shared → Prop} {s : Shared} {a b : Addr} (da : s.TypeIs (.ref a) "dict") (tb : s.TypeIs (.ref b) "list") (h : Q .notImplemented s) :
    wpAny (model prog w) A (call (.builtin "dict.__ne__") [.ref a, .ref b]) Q E s := by
  refine wpAny_call_entry PySem.F.slot_dict_ne da PySem.F.entry_dict_ne ?_ (PySem.F.args_dict_ne_2 _ _)
  show wpAny _ _ (Builtin.Dict.dictSlotArgs "__ne__" ⟨[.ref a, .ref b], []⟩ >>= _) _ _ s
  refine wpAny_bind ?_
  unfold Builtin.Dict.dictSlotArgs
  refine wpAny_bind (wpAny_notOrdered_dict da ?_)
  show wpAny _ _ (pure (Value.ref a, Value.ref b)) _ _ s
  refine wpAny_pure ?_
  refine wpAny_bind (wpAny_isInstance (T := "list") tb PySem.F.sub_list_dict ?_)
  simp only [Bool.not_false, if_true]
  exact wpAny_bind (wpAny_rule (wpAny_pure ⟨_, rfl, h⟩))
theorem RcNeAt.my_dict_list {A : Around} {s : Shared} {l b : Addr} {o : Obj} {items2 : Array Value} (ho : s.heap.get? l = some o) (oc : o.cls = .type "dict") (hb : s.heap.IsList b items2) (hu : A.units < cLine) : RcNeAt A s (.ref l) (.ref b) true := fun prog w E Q h => by
  obtain ⟨⟨cls2, dd2, data2, sl2⟩, ho2, hc2, n2, hd2⟩ := id hb
  simp only at hc2 hd2
  subst hc2 hd2
  have hne : l ≠ b := fun e => by subst e; rw [ho] at ho2; cases ho2; exact absurd oc (by simp)
  exact (rc_ne_decline_or (k := false) ⟨_, ho, oc⟩ ⟨_, ho2, rfl⟩ (by decide) F.sub_list_dict F.slot_dict_ne F.slot_list_ne_refl
    (fun _ hq => my_dict_ne_declines (M := ()) ⟨_, ho, oc⟩ ⟨_, ho2, rfl⟩ hq)
    (fun _ hq => call_meets F.slot_list_ne_refl ⟨_, ho2, rfl⟩ F.entry_list_ne (F.args_list_ne_2 _ _) (my_list_ne_declines_dict b l items2 n2 dd2 sl2 o oc) ⟨ho2, ho, hq⟩)
    (fun _ hq => wpAny_isSame_ref_other' hne ho ho2 (by simp) hq) (.inr hu) h)
end PySem.SeqAt
namespace My
open PySem PySem.Spec PyProof.Rows L2
def rNe0 (K : PySem.W.Frag) : R2 := fun x y H Q => ∃ b, y = .ref b ∧ SqL K H b [] ∧ ((∃ ty, Ty7 H x ty ∧ ty ≠ "list" ∧ Q (.bl true) H) ∨ ∃ a xs, x = .ref a ∧ SqL K H a xs ∧ Q (.bl (!xs.isEmpty)) H)
theorem op_ne0 {X : Cx} (hu : X.A.units + 64 < cLine) : OpR X (compareOp .NotEq) (rNe0 X.K) := by
  intro pins s σ H x y v u Q I rx ry h
  obtain ⟨b, rfl, hb, h⟩ := h
  cases (show u = Value.ref b from ry)
  obtain ⟨ws, r2, p2, _⟩ := I.list hb
  have h1 : X.A.units < cLine := by omega
  cases r2
  rcases h with ⟨ty, h7, n, q⟩ | ⟨a, xs, rfl, ha, q⟩
  · suffices hh : SeqAt.RcNeAt X.A s v (.ref b) true from hh _ _ _ _ ⟨.bl true, H, I, rfl, q⟩
    cases h7 with
    | non => cases (show v = Value.none from rx); exact (SeqAt.RcNeAt.none_list p2.isList h1)
    | bl t => cases (show v = Value.bool t from rx); exact (SeqAt.RcNeAt.bool_list t p2.isList h1)
    | int i => obtain ⟨tk, rfl⟩ := (show ∃ tk, v = Value.int i tk from rx); exact (SeqAt.RcNeAt.int_list i tk p2.isList h1)
    | str i => obtain ⟨tk, rfl⟩ := (show ∃ tk, v = Value.str i tk from rx); exact (SeqAt.RcNeAt.str_list i tk p2.isList h1)
    | lst g => exact absurd rfl n
    | @tup c zs g =>
      cases (show v = Value.ref c from rx)
      obtain ⟨us, r1, p1, _⟩ := I.tuple (sqT g)
      exact (SeqAt.RcNeAt.tuple_list p1 p2.isList h1)
    | @dK c kvs g =>
      cases (show v = Value.ref c from rx)
      obtain ⟨_, _, vs, _, d⟩ := I.hok _ _ g
      obtain ⟨o, ho, oc⟩ := d.typeIs
      exact (SeqAt.RcNeAt.my_dict_list ho oc p2.isList h1)
  · cases (show v = Value.ref a from rx)
    obtain ⟨us, r1, p1, _⟩ := I.list ha
    cases xs with
    | nil =>
      cases r1
      have k := SeqAt.RcNeAt.lists (e := fun _ => true) p1.isList p2.isList rfl h1 (fun j h1 h2 => absurd h1 (Nat.not_lt_zero j))
      exact k _ _ _ _ ⟨.bl false, H, I, rfl, q⟩
    | cons x xs =>
      cases r1 with
      | cons a1 b1 =>
        have k := SeqAt.RcNeAt.lists_lengths p1.isList p2.isList (by simp) h1
        exact k _ _ _ _ ⟨.bl true, H, I, rfl, q⟩
theorem op_ne0K {X : Cx} {K : PySem.W.Frag} (hu : X.A.units + 64 < cLine) (h : X.K = K) : OpR X (compareOp .NotEq) (rNe0 K) := by subst h; exact op_ne0 hu
end My

/-! ### spots of grids: things that may be none -/
namespace My
open PySem L2
/-- a stretch that stands among so many: first, many -/
def strchB (f m : V) (n : Int) : Bool := match f, m with
  | .int a, .int b => decide (0 ≤ a) && (decide (1 ≤ b) && decide (a + b ≤ n))
  | _, _ => false
/-- a thing: a tuple of plain things, or no tuple -/
inductive ThAt (H : Hp) : V → Option (List V) → Prop
  | tup (a : Addr) (xs : List V) (h : H a = some (.tup xs)) (hx : ∀ x ∈ xs, ∃ t, Ty7 H x t) : ThAt H (.ref a) (some xs)
  | other (v : V) (t : String) (h : Ty7 H v t) (n : t ≠ "tuple") : ThAt H v none
theorem ThAt.same {H H' : Hp} {v : V} {o : Option (List V)} (h : ThAt H v o) (s : Same H H') : ThAt H' v o := by
  cases h with
  | tup a xs h hx => exact .tup a xs (s _ _ h) fun x m => let ⟨t, k⟩ := hx x m; ⟨t, k.mono s⟩
  | other v t h n => exact .other v t (h.mono s) n
def spotB (c r : Int) : Option (List V) → Bool
  | some [x, y, w, d] => strchB x w c && strchB y d r
  | _ => false
theorem stretch_int {f m : V} {n : Int} (h : strchB f m n = true) : ∃ a b : Int, f = .int a ∧ m = .int b ∧ 0 ≤ a ∧ 1 ≤ b ∧ a + b ≤ n := by
  unfold strchB at h
  split at h
  · rename_i a b
    simp only [Bool.and_eq_true, decide_eq_true_eq] at h
    exact ⟨a, b, rfl, rfl, h.1, h.2.1, h.2.2⟩
  · cases h
/-- four whole numbers as they stand -/
def four4 (x y w d : Int) : Option (List V) := some [.int x, .int y, .int w, .int d]
theorem spot_int {c r : Int} {o : Option (List V)} (h : spotB c r o = true) : ∃ x y w d : Int, o = four4 x y w d ∧ 0 ≤ x ∧ 1 ≤ w ∧ x + w ≤ c ∧ 0 ≤ y ∧ 1 ≤ d ∧ y + d ≤ r := by
  unfold spotB at h
  split at h
  · rename_i x y w d
    rw [Bool.and_eq_true] at h
    obtain ⟨a, b, rfl, rfl, h1, h2, h3⟩ := stretch_int h.1
    obtain ⟨a', b', rfl, rfl, h4, h5, h6⟩ := stretch_int h.2
    exact ⟨_, _, _, _, rfl, h1, h2, h3, h4, h5, h6⟩
  · cases h
def apartI (x y w d x' y' w' d' : Int) : Bool := (decide (x + w ≤ x') || decide (x' + w' ≤ x)) || (decide (y + d ≤ y') || decide (y' + d' ≤ y))
def apartO : Option (List V) → Option (List V) → Bool
  | some [.int x, .int y, .int w, .int d], some [.int x', .int y', .int w', .int d'] => apartI x y w d x' y' w' d'
  | _, _ => false
/-- each one stands, and apart from those ahead -/
def stB (c r : Int) : List (Option (List V)) → List (Option (List V)) → Bool
  | _, [] => true
  | pre, o :: t => (spotB c r o && pre.all (apartO o)) && stB c r (pre ++ [o]) t
def ThsAt (H : Hp) (vs : List V) (os : List (Option (List V))) : Prop := vs.length = os.length ∧ ∀ (i : Nat) (v : V) (o : Option (List V)), vs[i]? = some v → os[i]? = some o → ThAt H v o
theorem ThsAt.same {H H' : Hp} {vs : List V} {os : List (Option (List V))} (h : ThsAt H vs os) (s : Same H H') : ThsAt H' vs os := ⟨h.1, fun i v o e1 e2 => (h.2 i v o e1 e2).same s⟩
theorem ThsAt.take {H : Hp} {vs : List V} {os : List (Option (List V))} (h : ThsAt H vs os) (p : Nat) : ThsAt H (vs.take p) (os.take p) := ⟨by rw [List.length_take, List.length_take, h.1], fun i v o e1 e2 => by
  rw [List.getElem?_take] at e1 e2
  split at e1
  · rename_i hi
    rw [if_pos hi] at e2
    exact h.2 i v o e1 e2
  · cases e1⟩
theorem ThAt.four {H : Hp} {v : V} {x y w d : Int} (h : ThAt H v (four4 x y w d)) : ∃ a, v = .ref a ∧ H a = some (.tup [.int x, .int y, .int w, .int d]) := by
  unfold four4 at h
  cases h with
  | tup a xs h hx => exact ⟨a, rfl, h⟩
theorem all_getD (pre : List (Option (List V))) (f : Option (List V) → Bool) : ((List.range pre.length).map fun i => f (pre.getD i none)).all id = pre.all f := by
  have e : ((List.range pre.length).map fun i => f (pre.getD i none)) = pre.map f := by
    refine List.ext_getElem? fun i => ?_
    rw [List.getElem?_map, List.getElem?_map]
    by_cases h : i < pre.length
    · rw [List.getElem?_range h, List.getElem?_eq_getElem h]
      show some (f (pre.getD i none)) = some (f pre[i])
      rw [List.getD_eq_getElem?_getD, List.getElem?_eq_getElem h]; rfl
    · rw [List.getElem?_eq_none (l := List.range pre.length) (by rw [List.length_range]; omega), List.getElem?_eq_none (l := pre) (by omega)]; rfl
  rw [e, List.all_map]; rfl
theorem stB_take {c r : Int} : ∀ (os pre : List (Option (List V))), stB c r pre os = true → ∀ o ∈ os, spotB c r o = true
  | [], _, _, _, m => by cases m
  | o :: t, pre, h, q, m => by
    rw [stB, Bool.and_eq_true, Bool.and_eq_true] at h
    rcases List.mem_cons.mp m with rfl | m
    · exact h.1.1
    · exact stB_take t _ h.2 q m
/-- what holds of the first so many -/
theorem stB_step {c r : Int} (os : List (Option (List V))) (pre : List (Option (List V))) : stB c r pre os = true ↔ ∀ p o, os[p]? = some o → (spotB c r o && (pre ++ os.take p).all (apartO o)) = true := by
  induction os generalizing pre with
  | nil => exact ⟨fun _ p o h => by simp at h, fun _ => rfl⟩
  | cons a t ih =>
    rw [stB, Bool.and_eq_true]
    constructor
    · rintro ⟨h1, h2⟩ p o h
      cases p with
      | zero => simp only [List.getElem?_cons_zero, Option.some.injEq] at h; subst h; simpa using h1
      | succ p => have := (ih (pre ++ [a])).mp h2 p o (by simpa using h); simpa [List.append_assoc] using this
    · intro h
      refine ⟨?_, (ih (pre ++ [a])).mpr fun p o hp => ?_⟩
      · have := h 0 a rfl; simpa using this
      · have := h (p + 1) o (by simpa using hp); simpa [List.append_assoc] using this
/-- an instance of a class -/
def InsC (C : Addr) (H : Hp) (v : V) : Prop := ∃ a dx fs, v = .ref a ∧ H a = some (.ins C dx fs)
theorem InsC.same {C : Addr} {H H' : Hp} {v : V} (h : InsC C H v) (s : Same H H') : InsC C H' v := let ⟨a, dx, fs, e, g⟩ := h; ⟨a, dx, fs, e, s _ _ g⟩
theorem upd_gen {R : Hp → Prop} {H : Hp} {x : Addr} {o : HO} (h : ∀ H2, But x H H2 → H2 x = some o → R H2) : R (upd H x o) := h _ But.refl.upd upd_same
/-! #### things as data -/
def toO : PyData → Option (List V)
  | .tuple ds => some (ds.map flV)
  | _ => none
def CelD (d : PyData) : Prop := d.canLay0 = true ∧ d.depth ≤ 1
theorem ty_flat : ∀ {d : PyData}, flatD d = true → tyD d ≠ "tuple"
  | .none, _ => (by decide : ("NoneType" : String) ≠ "tuple")
  | .bool _, _ => (by decide : ("bool" : String) ≠ "tuple")
  | .int _, _ => (by decide : ("int" : String) ≠ "tuple")
  | .str _, _ => (by decide : ("str" : String) ≠ "tuple")
  | .list _, h => by cases h
  | .tuple _, h => by cases h
  | .dict _, h => by cases h
theorem it_th {H : Hp} {v : V} {d : PyData} (h : It H v d) : ThAt H v (toO d) := by
  cases h with
  | fl d f =>
    have e : toO d = none := by cases d <;> first | rfl | cases f
    rw [e]
    exact .other _ (tyD d) (fl_t7 f) (ty_flat f)
  | @tup r ds g f =>
    refine .tup r _ g fun x m => ?_
    obtain ⟨d, hd, rfl⟩ := List.mem_map.mp m
    exact ⟨_, fl_t7 (List.all_eq_true.mp f d hd)⟩
  | @lst r ds g f => exact .other _ "list" (.lst g) (by decide)
theorem its_ths {H : Hp} {vs : List V} {ds : List PyData} (h : ItsAt H vs ds) : ThsAt H vs (ds.map toO) := ⟨by rw [List.length_map, h.1], fun i v o e1 e2 => by
  rw [List.getElem?_map] at e2
  obtain ⟨d, hd, hi⟩ := h.at' e1
  rw [hd] at e2
  cases e2
  exact it_th hi⟩
def cel4 (x y w d : Int) : PyData := .tuple [.int x, .int y, .int w, .int d]
theorem cel4_o (x y w d : Int) : toO (cel4 x y w d) = four4 x y w d := rfl
theorem cel4_c (x y w d : Int) : CelD (cel4 x y w d) := by simp [CelD, cel4, PyData.canLay0, PyData.canLayAll0, PyData.depth, PyData.depthAll]
theorem cels_shaped {ds : List PyData} (h : ∀ d ∈ ds, CelD d) : SeqAt.shaped (.list ds) = true := by
  have := shaped_map (m := 1) (g := fun d : {d // CelD d} => d.1) (by decide) (fun d => d.2.1) (fun d => d.2.2) (ds.attachWith _ h)
  rwa [List.attachWith_map_subtype_val] at this
/-- a dict with tuples as keys, empty -/
def tDNewTA : TE := fun _ H Q => New H (.dT []) Q
theorem pe_dnewTA {X : Cx} {pos : Pos} : PE X (.Dict [] [] pos) tDNewTA := pe_imp pe_dnewT fun _ _ _ h => h.go
/-- four whole numbers in a tuple -/
def IsC4 (d : PyData) : Prop := ∃ x y w h : Int, d = cel4 x y w h ∧ -100 ≤ x ∧ x ≤ 100
/-- a source and a dict may change -/
def But2 (a b : Addr) (H H' : Hp) : Prop := ∀ c o, c ≠ a → c ≠ b → H c = some o → H' c = some o
structure Dg (a g : Addr) (H H' : Hp) : Prop where
  s : Src H' a
  b : But2 a g H H'
theorem But2.trans {a b : Addr} {H H1 H2 : Hp} (p : But2 a b H H1) (q : But2 a b H1 H2) : But2 a b H H2 := fun c o n m h => q c o n m (p c o n m h)
theorem But2.of {a b : Addr} {H H1 : Hp} (p : Same H H1) : But2 a b H H1 := fun c o _ _ h => p c o h
theorem But2.l {a b : Addr} {H H1 : Hp} (p : But a H H1) : But2 a b H H1 := fun c o n _ h => p c o n h
theorem But2.r {a b : Addr} {H H1 : Hp} (p : But b H H1) : But2 a b H H1 := fun c o _ n h => p c o n h
theorem Dg.trans {a b : Addr} {H H1 H2 : Hp} (p : Dg a b H H1) (q : Dg a b H1 H2) : Dg a b H H2 := ⟨q.s, p.b.trans q.b⟩
theorem Dg.refl {a b : Addr} {H : Hp} (h : Src H a) : Dg a b H H := ⟨h, fun _ _ _ _ h => h⟩
theorem Dg.same {a b : Addr} {H H1 H2 : Hp} (p : Dg a b H H1) (q : Same H1 H2) : Dg a b H H2 := ⟨p.s.same q, p.b.trans (.of q)⟩
theorem Dg.dr {a b : Addr} {H H1 H2 : Hp} (p : Dg a b H H1) (q : Dr a H1 H2) : Dg a b H H2 := ⟨q.s, p.b.trans (.l q.b)⟩
theorem Dg.set {a b : Addr} {H H1 H2 : Hp} (p : Dg a b H H1) (q : But b H1 H2) (n : a ≠ b) : Dg a b H H2 := ⟨p.s.but q n, p.b.trans (.r q)⟩
/-- .. a list that was not there, too -/
theorem Dg.mut {a b l : Addr} {H H1 H2 : Hp} (p : Dg a b H H1) (q : But l H1 H2) (n : H l = none) (na : a ≠ l) : Dg a b H H2 := ⟨p.s.but q na, fun c o h1 h2 h => q _ _ (ne_of_none h n) (p.b c o h1 h2 h)⟩
/-- a list of such -/
def Cs4 (H : Hp) (us : List V) (ds : List PyData) : Prop := ItsAt H us ds ∧ ∀ d ∈ ds, IsC4 d
theorem c4_it {H : Hp} {p : Addr} {x y w h : Int} (g : H p = some (.tup [.int x, .int y, .int w, .int h])) : It H (.ref p) (cel4 x y w h) := .tup (ds := [.int x, .int y, .int w, .int h]) g rfl
theorem It.four {H : Hp} {v : V} {x y w h : Int} (i : It H v (cel4 x y w h)) : ∃ p, v = .ref p ∧ H p = some (.tup [.int x, .int y, .int w, .int h]) := by
  unfold cel4 at i
  cases i with
  | fl _ f => cases f
  | tup g f => exact ⟨_, rfl, g⟩
theorem Cs4.nil {H : Hp} : Cs4 H [] [] := ⟨⟨rfl, fun i v d e => by simp at e⟩, fun d h => by cases h⟩
theorem Cs4.same {H H' : Hp} {us : List V} {ds : List PyData} (h : Cs4 H us ds) (s : Same H H') : Cs4 H' us ds := ⟨h.1.mono s, h.2⟩
theorem Cs4.gen {H H' : Hp} {us : List V} {ds : List PyData} (h : Cs4 H us ds) (s : ∀ p xs, H p = some (.tup xs) → H' p = some (.tup xs)) : Cs4 H' us ds := ⟨⟨h.1.1, fun i v d e1 e2 => by
  have hi := h.1.2 i v d e1 e2
  obtain ⟨x, y, w, k, rfl, _⟩ := h.2 d (List.mem_of_getElem? e2)
  obtain ⟨p, rfl, g⟩ := hi.four
  exact c4_it (s _ _ g)⟩, h.2⟩
theorem Cs4.but {H H' : Hp} {us : List V} {ds : List PyData} {a : Addr} {zs : List V} (h : Cs4 H us ds) (b : But a H H') (g : H a = some (.lst zs)) : Cs4 H' us ds := h.gen fun p xs e => b _ _ (by rintro rfl; rw [g] at e; cases e) e
theorem Cs4.dr {H H' : Hp} {us : List V} {ds : List PyData} {a : Addr} (h : Cs4 H us ds) (d : Dr a H H') (g : Src H a) : Cs4 H' us ds := let ⟨_, e⟩ := g; h.but d.b e
theorem Cs4.dg {H H' : Hp} {us : List V} {ds : List PyData} {a g : Addr} {kvs : List (List Key × V)} (h : Cs4 H us ds) (d : Dg a g H H') (s : Src H a) (e : H g = some (.dT kvs)) : Cs4 H' us ds :=
  h.gen fun p xs q => d.b _ _ (by rintro rfl; obtain ⟨_, z⟩ := s; rw [z] at q; cases q) (by rintro rfl; rw [e] at q; cases q) q
theorem Cs4.snoc {H : Hp} {us : List V} {ds : List PyData} {p : Addr} {x y w k : Int} (h : Cs4 H us ds) (g : H p = some (.tup [.int x, .int y, .int w, .int k])) (b : -100 ≤ x ∧ x ≤ 100) : Cs4 H (us ++ [.ref p]) (ds ++ [cel4 x y w k]) :=
  ⟨h.1.append (.one (c4_it g)), fun d m => by
    rcases List.mem_append.mp m with m | m
    · exact h.2 d m
    · rw [List.mem_singleton.mp m]; exact ⟨_, _, _, _, rfl, b⟩⟩
/-- a list of pairs of whole numbers -/
inductive C2s (H : Hp) : List V → List (Int × Int) → Prop
  | nil : C2s H [] []
  | cons {p : Addr} {x y : Int} {us : List V} {cs : List (Int × Int)} (g : H p = some (.tup [.int x, .int y])) (b : -100 ≤ x ∧ x ≤ 100) (t : C2s H us cs) : C2s H (.ref p :: us) ((x, y) :: cs)
theorem C2s.gen {H H' : Hp} (s : ∀ p xs, H p = some (.tup xs) → H' p = some (.tup xs)) : ∀ {us : List V} {cs : List (Int × Int)}, C2s H us cs → C2s H' us cs
  | _, _, .nil => .nil
  | _, _, .cons g b t => .cons (s _ _ g) b (t.gen s)
theorem C2s.same {H H' : Hp} {us : List V} {cs : List (Int × Int)} (h : C2s H us cs) (s : Same H H') : C2s H' us cs := h.gen fun p xs e => s _ _ e
theorem C2s.but {H H' : Hp} {us : List V} {cs : List (Int × Int)} {a : Addr} {zs : List V} (h : C2s H us cs) (b : But a H H') (g : H a = some (.lst zs)) : C2s H' us cs := h.gen fun p xs e => b _ _ (by rintro rfl; rw [g] at e; cases e) e
theorem C2s.snoc {H : Hp} {p : Addr} {x y : Int} (g : H p = some (.tup [.int x, .int y])) (b : -100 ≤ x ∧ x ≤ 100) : ∀ {us : List V} {cs : List (Int × Int)}, C2s H us cs → C2s H (us ++ [.ref p]) (cs ++ [(x, y)])
  | _, _, .nil => .cons g b .nil
  | _, _, .cons h b' t => .cons h b' (t.snoc g b)
theorem C2s.dp {K : PySem.W.Frag} {H : Hp} : ∀ {us : List V} {cs : List (Int × Int)}, C2s H us cs → DpAll K H us (cs.map fun c => .tuple [.int c.1, .int c.2])
  | _, _, .nil => .nil
  | _, _, .cons h _ t => .cons (.tup (sqT h) (.cons (.int _) (.cons (.int _) .nil))) t.dp
theorem C2s.at {H : Hp} : ∀ {us : List V} {cs : List (Int × Int)} {i : Nat} {v : V}, C2s H us cs → us[i]? = some v → ∃ p x y, v = .ref p ∧ H p = some (.tup [.int x, .int y]) ∧ -100 ≤ x ∧ x ≤ 100
  | _, _, i, v, .nil, h => by simp at h
  | _, _, 0, v, .cons g b t, h => by simp only [List.getElem?_cons_zero, Option.some.injEq] at h; subst h; exact ⟨_, _, _, rfl, g, b⟩
  | _, _, i + 1, v, .cons g b t, h => t.at (by simpa using h)
theorem C2s.shaped (cs : List (Int × Int)) : SeqAt.shaped (.list (cs.map fun c => .tuple [.int c.1, .int c.2])) = true := shaped_map (m := 1) (by decide) (fun c => by simp [PyData.canLay0, PyData.canLayAll0]) (fun c => by simp [PyData.depth, PyData.depthAll]) cs
theorem C2s.len {H : Hp} : ∀ {us : List V} {cs : List (Int × Int)}, C2s H us cs → us.length = cs.length
  | _, _, .nil => rfl
  | _, _, .cons _ _ t => congrArg Nat.succ t.len
theorem PyData_cons_nil {d : PyData} {ds : List PyData} : PyData.eqv (.list (d :: ds)) (.list []) = false := by simp [PyData.eqv, PyData.eqvAll]
theorem Dg.free {s g q : Addr} {H H1 : Hp} {o : HO} (d : Dg s g H H1) (e : H1 g = some o) (f : H1 q = none) : H q = none := by
  cases z : H q with
  | none => rfl
  | some u =>
    have n1 : q ≠ s := by rintro rfl; obtain ⟨_, y⟩ := d.s; rw [f] at y; cases y
    have n2 : q ≠ g := by rintro rfl; rw [f] at e; cases e
    rw [d.b _ _ n1 n2 z] at f
    cases f
theorem small1000' {n : Nat} (h : n ≤ 100000) : n < sizeLine := Nat.lt_of_le_of_lt h (by decide)
theorem spot_no {x y w d : V} {c r : Int} (h : (isI x && (isI y && (isI w && isI d))) = false) : spotB c r (some [x, y, w, d]) = false := by
  cases e : spotB c r (some [x, y, w, d]) with
  | false => rfl
  | true =>
    obtain ⟨X, Y, W, D, e2, _⟩ := spot_int e
    unfold four4 at e2
    cases e2
    cases h
theorem its_nil {H : Hp} : ItsAt H [] [] := ⟨rfl, fun i v d e => by simp at e⟩
theorem its_cons {H : Hp} {v : V} {d : PyData} {vs : List V} {ds : List PyData} (h : It H v d) (t : ItsAt H vs ds) : ItsAt H (v :: vs) (d :: ds) := (ItsAt.one h).append t
theorem tupI {H : Hp} {r : Addr} {ds : List PyData} (g : H r = some (.tup (ds.map flV))) (f : ds.all flatD = true) : It H (.ref r) (.tuple ds) := .tup g f
theorem all_cd {d : PyData} {ds : List PyData} (h : CelD d) (t : ∀ e ∈ ds, CelD e) : ∀ e ∈ d :: ds, CelD e := List.forall_mem_cons.mpr ⟨h, t⟩
theorem all_nd : ∀ e ∈ ([] : List PyData), CelD e := fun _ h => by cases h
/-- some things as data -/
def Its1 (H : Hp) (us : List V) : Prop := ∃ ds, ItsAt H us ds ∧ ∀ d ∈ ds, CelD d
theorem Its1.same {H H' : Hp} {us : List V} (h : Its1 H us) (s : Same H H') : Its1 H' us := let ⟨d, a, b⟩ := h; ⟨d, a.mono s, b⟩
theorem Its1.app {H : Hp} {us ws : List V} (h : Its1 H us) (k : Its1 H ws) : Its1 H (us ++ ws) := by
  obtain ⟨d, a, b⟩ := h
  obtain ⟨d', a', b'⟩ := k
  exact ⟨d ++ d', a.append a', fun e m => (List.mem_append.mp m).elim (b e) (b' e)⟩
theorem lstI {H : Hp} {r : Addr} {ds : List PyData} (g : H r = some (.lst (ds.map flV))) (f : ds.all flatD = true) : It H (.ref r) (.list ds) := .lst g f
theorem small_log {x : Int} (h : -100 ≤ x ∧ x ≤ 100) : x.natAbs.log2 < 1920 := Nat.lt_of_le_of_lt (Nat.log2_le_self _) (by omega)
theorem strOk_of (t : String) : PyData.strOk (Str.ofString t) = true := strOk_iff.mpr fun c hc => by
  have e : (Str.ofString t).cps.toList = t.toList.map Char.toNat := by
    show (cpsOfBytes 0 0 t.toByteArray.data.toList).toArray.toList = _
    rw [List.toList_toArray, cpsOfBytes_string]
  rw [e] at hc
  obtain ⟨ch, _, rfl⟩ := List.mem_map.mp hc
  have v : ch.val.isValidChar := ch.valid
  show ch.val.toNat < _
  rcases v with v | v
  · have : ch.val.toNat < 0xd800 := v
    omega
  · exact v.2
theorem its1_all {H : Hp} {us : List V} : Its1 H us ↔ ∀ v ∈ us, ∃ d, It H v d ∧ CelD d := by
  constructor
  · rintro ⟨ds, h, c⟩ v m
    obtain ⟨i, hi⟩ := List.getElem?_of_mem m
    obtain ⟨d, hd, it⟩ := h.at' hi
    exact ⟨d, it, c d (List.mem_of_getElem? hd)⟩
  · intro h
    induction us with
    | nil => exact ⟨[], its_nil, all_nd⟩
    | cons v t ih =>
      obtain ⟨d, it, c⟩ := h v (List.mem_cons_self ..)
      obtain ⟨ds, ht, ct⟩ := ih fun w m => h w (List.mem_cons_of_mem _ m)
      exact ⟨d :: ds, its_cons it ht, all_cd c ct⟩
theorem Its1.dr {H H' : Hp} {us : List V} {s : Addr} (h : Its1 H us) (d : Dr s H H') : Its1 H' us := its1_all.mpr fun v m => by
  obtain ⟨x, it, c⟩ := its1_all.mp h v m
  by_cases e : v = .ref s
  · subst e
    obtain ⟨⟨a, b, c⟩, g⟩ := d.s
    exact ⟨.list [.int a, .int b, .int c], .lst g rfl, by simp [CelD, PyData.canLay0, PyData.canLayAll0, PyData.depth, PyData.depthAll]⟩
  · exact ⟨x, it.but d.b e, c⟩
theorem Its1.sub {H : Hp} {us ws : List V} (h : Its1 H us) (m : ∀ v ∈ ws, v ∈ us) : Its1 H ws := its1_all.mpr fun v mv => its1_all.mp h v (m v mv)
theorem Cs4.its {H : Hp} {us : List V} {ds : List PyData} (h : Cs4 H us ds) : Its1 H us := ⟨ds, h.1, fun d m => by
  obtain ⟨x, y, w, k, rfl, _⟩ := h.2 d m
  exact cel4_c x y w k⟩
/-! #### cells of a grid -/
abbrev Sp4 := Int × Int × Int × Int
def InS (q : Sp4) (a b : Int) : Prop := q.1 ≤ a ∧ a < q.1 + q.2.2.1 ∧ q.2.1 ≤ b ∧ b < q.2.1 + q.2.2.2
def sp4 (q : Sp4) : Option (List V) := four4 q.1 q.2.1 q.2.2.1 q.2.2.2
def KeysI (kvs : List (List Key × V)) (S : Int → Int → Prop) : Prop := ∀ a b : Int, (valV kvs [.inl a, .inl b]).isSome = true ↔ S a b
theorem KeysI.put {kvs : List (List Key × V)} {S : Int → Int → Prop} (h : KeysI kvs S) (a0 b0 : Int) (v : V) : KeysI (putK kvs [.inl a0, .inl b0] v) (fun a b => S a b ∨ (a = a0 ∧ b = b0)) := fun a b => by
  rw [valV_put]
  by_cases e : ([.inl a, .inl b] : List Key) = [.inl a0, .inl b0]
  · rw [if_pos e]
    have : a = a0 ∧ b = b0 := by
      simp only [List.cons.injEq, Sum.inl.injEq, and_true] at e
      exact e
    exact ⟨fun _ => .inr this, fun _ => rfl⟩
  · rw [if_neg e, h a b]
    refine ⟨.inl, fun h => h.elim id fun k => absurd ?_ e⟩
    rw [k.1, k.2]
theorem KeysI.imp {kvs : List (List Key × V)} {S T : Int → Int → Prop} (h : KeysI kvs S) (e : ∀ a b, S a b ↔ T a b) : KeysI kvs T := fun a b => (h a b).trans (e a b)
/-- all of them stand -/
theorem all_sp4 {c r : Int} : ∀ {os : List (Option (List V))}, (∀ o ∈ os, spotB c r o = true) → ∃ qs : List Sp4, os = qs.map sp4 ∧ ∀ q ∈ qs, 0 ≤ q.1 ∧ 1 ≤ q.2.2.1 ∧ q.1 + q.2.2.1 ≤ c ∧ 0 ≤ q.2.1 ∧ 1 ≤ q.2.2.2 ∧ q.2.1 + q.2.2.2 ≤ r
  | [], _ => ⟨[], rfl, fun q h => by cases h⟩
  | o :: t, h => by
    obtain ⟨x, y, w, d, e, h1, h2, h3, h4, h5, h6⟩ := spot_int (h o (List.mem_cons_self ..))
    obtain ⟨qs, eq, hq⟩ := all_sp4 fun o' m => h o' (List.mem_cons_of_mem _ m)
    refine ⟨(x, y, w, d) :: qs, by rw [List.map_cons, ← eq, e]; rfl, fun q m => ?_⟩
    rcases List.mem_cons.mp m with rfl | m
    · exact ⟨h1, h2, h3, h4, h5, h6⟩
    · exact hq q m
theorem apart_sp4 (p q : Sp4) : apartO (sp4 p) (sp4 q) = apartI p.1 p.2.1 p.2.2.1 p.2.2.2 q.1 q.2.1 q.2.2.1 q.2.2.2 := rfl
/-- apart just where no cell is had by both -/
theorem apart_iff {p q : Sp4} (p1 : 1 ≤ p.2.2.1) (p2 : 1 ≤ p.2.2.2) (q1 : 1 ≤ q.2.2.1) (q2 : 1 ≤ q.2.2.2) : apartO (sp4 p) (sp4 q) = true ↔ ∀ a b, InS p a b → ¬ InS q a b := by
  rw [apart_sp4]
  unfold apartI InS
  rw [Bool.or_eq_true, Bool.or_eq_true, Bool.or_eq_true, decide_eq_true_eq, decide_eq_true_eq, decide_eq_true_eq, decide_eq_true_eq]
  constructor
  · intro h a b h1 h2; omega
  · intro h
    by_cases c1 : p.1 + p.2.2.1 ≤ q.1
    · exact .inl (.inl c1)
    by_cases c2 : q.1 + q.2.2.1 ≤ p.1
    · exact .inl (.inr c2)
    by_cases c3 : p.2.1 + p.2.2.2 ≤ q.2.1
    · exact .inr (.inl c3)
    by_cases c4 : q.2.1 + q.2.2.2 ≤ p.2.1
    · exact .inr (.inr c4)
    exact absurd ⟨by omega, by omega, by omega, by omega⟩ (h (max p.1 q.1) (max p.2.1 q.2.1) ⟨by omega, by omega, by omega, by omega⟩)
theorem tks_of {H : Hp} : ∀ {us : List V}, (∀ v ∈ us, ∃ t : Tk, TkAt H v t ∧ t.ok) → ∃ ts : List Tk, TksAt H us ts ∧ ∀ t ∈ ts, t.ok
  | [], _ => ⟨[], ⟨rfl, fun i v t e => by simp at e⟩, fun t h => by cases h⟩
  | v :: us, h => by
    obtain ⟨t, ht, ok⟩ := h v (List.mem_cons_self ..)
    obtain ⟨ts, hts, oks⟩ := tks_of fun w m => h w (List.mem_cons_of_mem _ m)
    refine ⟨t :: ts, ⟨by rw [List.length_cons, List.length_cons, hts.1], fun i w u e1 e2 => ?_⟩, fun u m => ?_⟩
    · cases i with
      | zero => cases e1; cases e2; exact ht
      | succ i => exact hts.2 i w u (by simpa using e1) (by simpa using e2)
    · rcases List.mem_cons.mp m with rfl | m
      · exact ok
      · exact oks u m
theorem InsC.but {C D : Addr} {H H' : Hp} {v : V} {zs : List V} (h : InsC C H v) (b : But D H H') (g : H D = some (.lst zs)) : InsC C H' v := by
  obtain ⟨a, dx, fs, rfl, e⟩ := h
  exact ⟨a, dx, fs, rfl, b _ _ (by rintro rfl; rw [g] at e; cases e) e⟩
theorem InsC.dr {C s : Addr} {H H' : Hp} {v : V} (h : InsC C H v) (hs : Src H s) (d : Dr s H H') : InsC C H' v := let ⟨_, g⟩ := hs; h.but d.b g
theorem letter_at {i : Int} (h0 : 0 ≤ i) (h1 : i < 8) : ∃ c, atI (Str.ofString "abcdefgh").cps.toList i = some c ∧ c ∈ lettersL := by
  have e : (Str.ofString "abcdefgh").cps.toList = [97, 98, 99, 100, 101, 102, 103, 104] := by decide +kernel
  have l : ∀ c ∈ ([97, 98, 99, 100, 101, 102, 103, 104] : List Nat), c ∈ lettersL := by decide +kernel
  rw [e]
  obtain ⟨k, rfl⟩ := Int.eq_ofNat_of_zero_le h0
  have hk : k < ([97, 98, 99, 100, 101, 102, 103, 104] : List Nat).length := by show k < 8; omega
  exact ⟨_, atI_nat (List.getElem?_eq_getElem hk), l _ (List.getElem_mem hk)⟩
theorem canLay_list : ∀ {ds : List PyData}, (∀ d ∈ ds, CelD d) → (PyData.list ds).canLay0 = true := by
  intro ds h
  show PyData.canLayAll0 ds = true
  induction ds with
  | nil => rfl
  | cons d t ih => simp only [PyData.canLayAll0, (h d (List.mem_cons_self ..)).1, ih fun e m => h e (List.mem_cons_of_mem _ m), Bool.and_self]
theorem It.there {H : Hp} {v : V} {d : PyData} (h : It H v d) : ∀ c, v = .ref c → H c ≠ none := fun c e => by
  subst e
  generalize hv : V.ref c = v at h
  cases h with
  | fl d f => cases d <;> first | (cases hv; done) | cases f
  | tup g f => cases hv; rw [g]; exact fun h => by cases h
  | lst g f => cases hv; rw [g]; exact fun h => by cases h
theorem shaped_tup {ds : List PyData} (h : SeqAt.shaped (.list ds) = true) : SeqAt.shaped (.tuple ds) = true := by
  simpa [SeqAt.shaped, PyData.canLay0, PyData.depth] using h
theorem eqv_tup_self {ds : List PyData} (h : (PyData.list ds).canLay0 = true) : PyData.eqv (.tuple ds) (.tuple ds) = true := SeqAt.eqv_refl _ (by simpa [PyData.canLay0] using h)
theorem lcTx {K : PySem.W.Frag} {g : TG} {tt : TT} {te : TE} {vs : List Nat} {σ : L2.St} {H1 : Hp} {D a : Addr} {Qd : Hp → Prop} {xs : List V} (f : Nat → V) (hD : H1 D = none) (hx : SqT K H1 a xs) (hn : xs.length ≤ 100000)
    (hs : ∀ (i : Nat) (x : V) (H : Hp) (Kt : V → Hp → Prop) (Kf : Hp → Prop), xs[i]? = some x → Same H1 H → (∀ H4, Same H H4 → Kt (f i) H4) → LcT g tt te vs σ x H Kt Kf)
    (hd : ∀ H, Same H1 H → H D = some (.lst ((List.range xs.length).map f)) → Qd H) : LcG (Itt K a) g tt te vs σ H1 D Qd :=
  lcTq (ysF f (fun _ => true) (List.range xs.length)) hD hx hn (fun i x H Kt Kf hxi s qq => by
    have hi := (List.getElem?_eq_some_iff.mp hxi).1
    exact hs i x H Kt Kf hxi s (fun H4 s4 => qq.yes _ _ s4 (by unfold ysF; rw [range_get hi]; rfl)))
    (fun H s h => hd H s (by have := ysF_all f (fun _ => true) (List.range xs.length); rw [List.length_range] at this; rw [h, this, List.filter_eq_self.mpr fun _ _ => rfl]))
end My

namespace My
open PySem PySem.Spec PyProof.Rows L2
section
variable {P : Program} {w : World} {K : PySem.W.Frag} {mg : Str → Option Value} {base : Heap}
def sp_is_whole : Sp := fun vs H Q _ => ∃ (x : V) (t : String), vs = [x] ∧ Ty7 H x t ∧ Q (.bl (isI x)) H
theorem ok_is_whole (T : Tx K mg) : FnOk P w K mg base CX0 1 T.d_is_whole.f T.d_is_whole.fd ["thing"] (sp_is_whole) := by
  refine T.d_is_whole.F.ok sc_is_whole (fun vs H Q E h => ?_) (fun cdv A outer s H vs Q E hr h => ?_)
  · obtain ⟨x, t, rfl, _⟩ := h
    rfl
  · obtain ⟨x, t, rfl, ht, k⟩ := h
    refine ⟨_, (pss_one (ps_ret (pe_and (pe_callB is_int (by rfl) T.b_isinstance (by decide +kernel) (pa_cons (pv 0) (pa_cons (pe_bltn (v := .ty "int") (by rfl) T.b_int (by decide +kernel) rfl) pa_nil))) (pe_one (pe_not (pe_callB is_bool (by rfl) T.b_isinstance (by decide +kernel) (pa_cons (pv 0) (pa_cons (pe_bltn (v := .ty "bool") (by rfl) T.b_bool (by decide +kernel) rfl) pa_nil)))))))), ?_⟩
    tm_at "rds"
    refine ite2 (fun e => ?_) (fun e => ?_)
    · tm_at "rds"
      rw [isI_bool e]
      exact k
    · rw [isI_no e]
      exact k
end
end My
namespace My
open PySem PySem.Spec PyProof.Rows L2
section
variable {P : Program} {w : World} {K : PySem.W.Frag} {mg : Str → Option Value} {base : Heap}
def sp_is_count : Sp := fun vs H Q _ => ∃ (x : V) (t : String), vs = [x] ∧ Ty7 H x t ∧ Q (.bl (isN x)) H
theorem ok_is_count (T : Tx K mg) : FnOk P w K mg base CX0 2 T.d_is_count.f T.d_is_count.fd ["thing"] (sp_is_count) := by
  refine T.d_is_count.F.ok sc_is_count (fun vs H Q E h => ?_) (fun cdv A outer s H vs Q E hr h => ?_)
  · obtain ⟨x, t, rfl, _⟩ := h
    rfl
  · obtain ⟨x, t, rfl, ht, k⟩ := h
    refine ⟨_, (pss_one (ps_ret (pe_and (pe_call (ok_is_whole T) (hr.mono (by decide)) (by rfl) T.d_is_whole.g T.d_is_whole.F.kp T.d_is_whole.b .nil pass0 (pa_cons (pv 0) pa_nil)) (pe_one (pe_cmpR op_ge (pv 0) pe_int (nomark _)))))), ?_⟩
    refine ⟨_, rfl, x, t, rfl, ht, ?_⟩
    tm_at "rds"
    refine ite2 (fun e => ?_) (fun e => ?_)
    · obtain ⟨i, rfl⟩ := isI_of e
      tm_at "rds"
      exact k
    · have : false = isN x := by cases x <;> simp_all [isI, isN]
      rw [this]
      exact k
end
end My
namespace My
open PySem PySem.Spec PyProof.Rows L2
section
variable {P : Program} {w : World} {K : PySem.W.Frag} {mg : Str → Option Value} {base : Heap}
def sp_is_name : Sp := fun vs H Q _ => ∃ (l : List Nat), vs = [.str (sO l)] ∧ NameOk l ∧ ∀ H', Same H H' → Q (.bl true) H'
theorem ok_is_name (T : Tx K mg) : FnOk P w K mg base CX0 1 T.d_is_name.f T.d_is_name.fd ["thing"] (sp_is_name) := by
  refine T.d_is_name.F.ok sc_is_name (fun vs H Q E h => ?_) (fun cdv A outer s H vs Q E hr h => ?_)
  · obtain ⟨l, rfl, _⟩ := h
    rfl
  · obtain ⟨l, rfl, ⟨l1, l2, lc⟩, k⟩ := h
    refine ⟨_, (pss_cons (ps_if (PW.pt (pw_or (pt_not (pt_val (pe_callB is_str (by rfl) T.b_isinstance (by decide +kernel) (pa_cons (pv 0) (pa_cons (pe_bltn (v := .ty "str") (by rfl) T.b_str (by decide +kernel) rfl) pa_nil))))) (pw_or1 (pt_not (pt_chain op_le op_le pe_int (pe_callB (call_lenK (K := K) rfl) (by rfl) T.b_len (by decide +kernel) (pa_cons (pv 0) pa_nil)) (pe_glob (v := .int 8) (by rfl) T.v_LONGEST T.r_LONGEST))))))
      (pss_one (ps_ret pe_bl))
      pss_nil)
      (pss_one (ps_ret (pe_callB (cr_allK (K := K) rfl rfl) (by rfl) T.b_all (by decide +kernel) (pa_cons (pe_lc (own := [("sign", 1)]) (g := gName 1) (by rfl) sc_is_name.nd (pi_str (pv 0)) (blkOk_by (own := [("sign", 1)]) (N := N_is_name) (sc := defScope s_is_name) (by decide +kernel)) (fun _ _ _ _ _ => (pg_name (i := 1) sc_is_name.nd rfl (Or.inl rfl))) (fun _ _ _ _ _ => pts_nil) (fun _ _ _ _ _ => (pe_cmpR op_in_sign (pv 1) (pe_glob (v := .str (Str.ofString "abcdefghijklmnopqrstuvwxyz")) (by rfl) T.v_LETTERS T.r_LETTERS) (by rfl)))) pa_nil))))), ?_⟩
    tm_at "rzs"
    refine ⟨_, l.length, rfl, ⟨by show l.toArray.size ≤ sizeLine; rw [List.size_toArray, sizeLine_eq]; omega, by show l.length = l.toArray.size; rw [List.size_toArray]⟩, ?_⟩
    tm_at "rds"
    refine iteT' (decide_eq_true (by omega)) ?_
    tm_at "rds"
    refine iteF' (by rw [decide_eq_true (by omega)]; rfl) ?_
    tm_at "rds"
    refine fun D hD => lcSc (v := .bl true) hD (by omega) (fun i c H1 Kt Kf hc s1 kt => ?_) (fun H1 s1 g1 => ?_)
    · tm_at "rds"
      show Kt (V.bl (decide (c ∈ lettersL))) H1
      rw [decide_eq_true (lc c (List.mem_of_getElem? hc))]
      exact kt _ (Same.refl _)
    rw [reps_bl] at g1
    tm_at "rzs"
    refine ⟨D, _, rfl, sqL g1, ?_⟩
    rw [reps_all]
    exact k H1 s1
end
end My
namespace My
open PySem PySem.Spec PyProof.Rows L2
section
variable {P : Program} {w : World} {K : PySem.W.Frag} {mg : Str → Option Value} {base : Heap}
def sp_is_share : Sp := fun vs H Q _ => ∃ (x : V) (t : String), vs = [x] ∧ Ty7 H x t ∧ Q (.bl (decide (t = "tuple"))) H
theorem ok_is_share (T : Tx K mg) : FnOk P w K mg base CX0 1 T.d_is_share.f T.d_is_share.fd ["track"] (sp_is_share) := by
  refine T.d_is_share.F.ok sc_is_share (fun vs H Q E h => ?_) (fun cdv A outer s H vs Q E hr h => ?_)
  · obtain ⟨x, t, rfl, _⟩ := h
    rfl
  · obtain ⟨x, t, rfl, ht, k⟩ := h
    refine ⟨_, (pss_one (ps_ret (pe_callB is_tuple (by rfl) T.b_isinstance (by decide +kernel) (pa_cons (pv 0) (pa_cons (pe_bltn (v := .ty "tuple") (by rfl) T.b_tuple (by decide +kernel) rfl) pa_nil))))), ?_⟩
    tm_at "rds"
    exact k
end
end My
namespace My
open PySem PySem.Spec PyProof.Rows L2
section
variable {P : Program} {w : World} {K : PySem.W.Frag} {mg : Str → Option Value} {base : Heap}
def sp_is_track : Sp := fun vs H Q _ => ∃ (x : V) (t : Tk), vs = [x] ∧ TkAt H x t ∧ t.ok ∧ Q (.bl true) H
theorem ok_is_track (T : Tx K mg) : FnOk P w K mg base CX0 3 T.d_is_track.f T.d_is_track.fd ["thing"] (sp_is_track) := by
  refine T.d_is_track.F.ok sc_is_track (fun vs H Q E h => ?_) (fun cdv A outer s H vs Q E hr h => ?_)
  · obtain ⟨x, t, rfl, _⟩ := h
    rfl
  · obtain ⟨x, t, rfl, ht, ok, k⟩ := h
    refine ⟨_, (pss_cons (ps_if (pt_val (pe_call (ok_is_share T) (hr.mono (by decide)) (by rfl) T.d_is_share.g T.d_is_share.F.kp T.d_is_share.b .nil pass0 (pa_cons (pv 0) pa_nil)))
      (pss_one (ps_ret (pe_and (pe_cmpR op_eq (pe_callB (call_lenK (K := K) rfl) (by rfl) T.b_len (by decide +kernel) (pa_cons (pv 0) pa_nil)) pe_int (nomark _)) (pe_and (pe_cmpR op_eq (pe_ix (ix_tupK (K := K) rfl) (pv 0) pe_int (fun _ _ => rfl)) pe_str (nomark _)) (pe_and (pe_call (ok_is_whole T) (hr.mono (by decide)) (by rfl) T.d_is_whole.g T.d_is_whole.F.kp T.d_is_whole.b .nil pass0 (pa_cons (pe_ix (ix_tupK (K := K) rfl) (pv 0) pe_int (fun _ _ => rfl)) pa_nil)) (pe_one (pe_cmpR op_ge (pe_ix (ix_tupK (K := K) rfl) (pv 0) pe_int (fun _ _ => rfl)) pe_int (nomark _))))))))
      pss_nil)
      (pss_one (ps_ret (pe_or (pe_call (ok_is_count T) (hr.mono (by decide)) (by rfl) T.d_is_count.g T.d_is_count.F.kp T.d_is_count.b .nil pass0 (pa_cons (pv 0) pa_nil)) (pe_one (pe_and (pe_callB is_str (by rfl) T.b_isinstance (by decide +kernel) (pa_cons (pv 0) (pa_cons (pe_bltn (v := .ty "str") (by rfl) T.b_str (by decide +kernel) rfl) pa_nil))) (pe_one (pe_cmpR op_eq (pv 0) pe_str (nomark _))))))))), ?_⟩
    cases t with
    | cells n =>
      have e : x = .int n := ht
      subst e
      tm_at "rzs"
      refine iteT' (decide_eq_true ok) ?_
      exact k
    | fit =>
      have e : x = .str "fit" := ht
      subst e
      tm_at "rzs"
      exact k
    | share j =>
      obtain ⟨r, rfl, g⟩ := ht
      tm_at "rzs"
      dsimp only
      rw [decide_eq_true (show 1 ≤ j from ok)]
      exact k
end
end My
namespace My
open PySem PySem.Spec PyProof.Rows L2
section
variable {P : Program} {w : World} {K : PySem.W.Frag} {mg : Str → Option Value} {base : Heap}
def sp_are_tracks (K : PySem.W.Frag) : Sp := fun vs H Q _ => ∃ (a : Addr) (xs : List V) (ts : List Tk), vs = [.ref a] ∧ H a = some (.lst xs) ∧ TksAt H xs ts ∧ (∀ t ∈ ts, t.ok) ∧ ts ≠ [] ∧ ts.length ≤ 1000 ∧ ∀ H', Same H H' → Q (.bl true) H'
theorem ok_are_tracks (T : Tx K mg) : FnOk P w K mg base CX0 4 T.d_are_tracks.f T.d_are_tracks.fd ["thing"] (sp_are_tracks K) := by
  refine T.d_are_tracks.F.ok sc_are_tracks (fun vs H Q E h => ?_) (fun cdv A outer s H vs Q E hr h => ?_)
  · obtain ⟨a, xs, ts, rfl, _⟩ := h
    rfl
  · obtain ⟨a, xs, ts, rfl, ha, hts, ok, ne, hn, k⟩ := h
    refine ⟨_, (pss_one (ps_ret (pe_and (pe_callB is_list (by rfl) T.b_isinstance (by decide +kernel) (pa_cons (pv 0) (pa_cons (pe_bltn (v := .ty "list") (by rfl) T.b_list (by decide +kernel) rfl) pa_nil))) (pe_and (pe_cmpR (op_neDK (K := K) hr.units rfl) (pv 0) (pe_lstA pa_nil) (nomark _)) (pe_one (pe_callB (cr_allK (K := K) rfl rfl) (by rfl) T.b_all (by decide +kernel) (pa_cons (pe_lc (own := [("track", 1)]) (g := gName 1) (by rfl) sc_are_tracks.nd (pi_listK (K := K) rfl (pv 0)) (blkOk_by (own := [("track", 1)]) (N := N_are_tracks) (sc := defScope s_are_tracks) (by decide +kernel)) (fun _ _ _ _ _ => (pg_name (i := 1) sc_are_tracks.nd rfl (Or.inl rfl))) (fun _ _ _ _ _ => pts_nil) (fun _ _ _ _ _ => (pe_call (ok_is_track T) (hr.mono (by decide)) (by rfl) T.d_is_track.g T.d_is_track.F.kp T.d_is_track.b .nil pass0 (pa_cons (pv 1) pa_nil)))) pa_nil))))))), ?_⟩
    tm_at "rzs"
    intro p H1 f1 s1 g1
    have ha1 := s1 _ _ ha
    refine ⟨_, _, .lst (sqL ha1) (dp_tks (hts.mono s1)), .lst (xs := []) (sqL g1) .nil, tks_shaped _, by decide +kernel, ?_⟩
    have e0 : PyData.eqv (.list (ts.map tkD)) (.list []) = false := by
      cases ts with
      | nil => exact absurd rfl ne
      | cons t ts => simp [PyData.eqv, PyData.eqvAll]
    rw [e0]
    tm_at "rzs"
    refine ⟨⟨_, sqL ha1⟩, fun D hD => lcLx (K := K) (xs := xs) (fun _ => .bl true) hD (sqL ha1) (by rw [hts.1]; omega) (fun i x H2 Kt Kf hx s2 kk => ?_) (fun H2 s2 g2 => ?_)⟩
    · obtain ⟨t, ht, hat⟩ := hts.at' hx
      have hat2 := hat.mono (s1.trans s2)
      have okt := ok t (List.mem_of_getElem? ht)
      tm_at "rzs"
      exact kk _ (Same.refl _)
    rw [bls _ fun _ => true] at g2
    tm_at "rzs"
    refine ⟨D, _, rfl, sqL g2, ?_⟩
    rw [all_true]
    exact k _ (s1.trans s2)
end
end My
namespace My
open PySem PySem.Spec PyProof.Rows L2
section
variable {P : Program} {w : World} {K : PySem.W.Frag} {mg : Str → Option Value} {base : Heap}
def sp_is_stretch : Sp := fun vs H Q _ => ∃ (f m : V) (n : Int) (t1 t2 : String), vs = [f, m, .int n] ∧ Ty7 H f t1 ∧ Ty7 H m t2 ∧ Q (.bl (strchB f m n)) H
theorem ok_is_stretch (T : Tx K mg) : FnOk P w K mg base CX0 3 T.d_is_stretch.f T.d_is_stretch.fd ["first", "many", "count"] (sp_is_stretch) := by
  refine T.d_is_stretch.F.ok sc_is_stretch (fun vs H Q E h => ?_) (fun cdv A outer s H vs Q E hr h => ?_)
  · obtain ⟨f, m, n, t1, t2, rfl, _⟩ := h
    rfl
  · obtain ⟨f, m, n, t1, t2, rfl, h1, h2, k⟩ := h
    refine ⟨_, (pss_one (ps_ret (pe_and (pe_call (ok_is_count T) (hr.mono (by decide)) (by rfl) T.d_is_count.g T.d_is_count.F.kp T.d_is_count.b .nil pass0 (pa_cons (pv 0) pa_nil)) (pe_and (pe_call (ok_is_whole T) (hr.mono (by decide)) (by rfl) T.d_is_whole.g T.d_is_whole.F.kp T.d_is_whole.b .nil pass0 (pa_cons (pv 1) pa_nil)) (pe_and (pe_cmpR op_ge (pv 1) pe_int (nomark _)) (pe_one (pe_cmpR op_le (pe_op op_add (pv 0) (pv 1)) (pv 2) (nomark _)))))))), ?_⟩
    tm_at "rzs"
    have kk : ∀ b : Bool, b = strchB f m n → Q (.bl b) H := fun b e => by rw [e]; exact k
    by_cases e1 : isN f = true
    · obtain ⟨a, rfl, a0⟩ : ∃ a : Int, f = .int a ∧ 0 ≤ a := by cases f <;> simp_all [isN]
      refine iteT' e1 ?_
      tm_at "rzs"
      by_cases e2 : isI m = true
      · obtain ⟨b, rfl⟩ := isI_of e2
        refine iteT' e2 ?_
        tm_at "rzs"
        by_cases e3 : 1 ≤ b
        · refine iteT' (decide_eq_true e3) ?_
          tm_at "rzs"
          refine kk _ ?_
          show _ = (decide (0 ≤ a) && (decide (1 ≤ b) && decide (a + b ≤ n)))
          rw [decide_eq_true a0, decide_eq_true e3]
          simp
        · refine iteF' (decide_eq_false e3) ?_
          refine kk _ ?_
          show _ = (decide (0 ≤ a) && (decide (1 ≤ b) && decide (a + b ≤ n)))
          rw [decide_eq_false e3]
          simp
      · have e2 : isI m = false := by simpa using e2
        refine iteF' e2 ?_
        refine kk _ ?_
        cases m <;> simp_all [isI, strchB]
    · have e1 : isN f = false := by simpa using e1
      refine iteF' e1 ?_
      refine kk _ ?_
      cases f with
      | int a =>
        have a0 : ¬ 0 ≤ a := fun h => by rw [show isN (.int a) = decide (0 ≤ a) from rfl, decide_eq_true h] at e1; cases e1
        cases m <;> simp [strchB, a0]
      | _ => rfl
end
end My
namespace My
open PySem PySem.Spec PyProof.Rows L2
section
variable {P : Program} {w : World} {K : PySem.W.Frag} {mg : Str → Option Value} {base : Heap}
def sp_is_spot : Sp := fun vs H Q _ => ∃ (v : V) (o : Option (List V)) (c r : Int), vs = [v, .int c, .int r] ∧ ThAt H v o ∧ Q (.bl (spotB c r o)) H
theorem ok_is_spot (T : Tx K mg) : FnOk P w K mg base CX0 4 T.d_is_spot.f T.d_is_spot.fd ["thing", "columns", "rows"] (sp_is_spot) := by
  refine T.d_is_spot.F.ok sc_is_spot (fun vs H Q E h => ?_) (fun cdv A outer s H vs Q E hr h => ?_)
  · obtain ⟨v, o, c, r, rfl, _⟩ := h
    rfl
  · obtain ⟨v, o, c, r, rfl, hv, k⟩ := h
    refine ⟨_, (pss_cons (ps_if (PW.pt (pw_or (pt_not (pt_val (pe_callB is_tuple (by rfl) T.b_isinstance (by decide +kernel) (pa_cons (pv 0) (pa_cons (pe_bltn (v := .ty "tuple") (by rfl) T.b_tuple (by decide +kernel) rfl) pa_nil))))) (pw_or1 (pt_cmpR op_ne (pe_callB (call_lenK (K := K) rfl) (by rfl) T.b_len (by decide +kernel) (pa_cons (pv 0) pa_nil)) pe_int (nomark _)))))
      (pss_one (ps_ret pe_bl))
      pss_nil)
      (pss_one (ps_ret (pe_and (pe_call (ok_is_stretch T) (hr.mono (by decide)) (by rfl) T.d_is_stretch.g T.d_is_stretch.F.kp T.d_is_stretch.b .nil pass0 (pa_cons (pe_ix (ix_tupK (K := K) rfl) (pv 0) pe_int (fun _ _ => rfl)) (pa_cons (pe_ix (ix_tupK (K := K) rfl) (pv 0) pe_int (fun _ _ => rfl)) (pa_cons (pv 1) pa_nil)))) (pe_one (pe_call (ok_is_stretch T) (hr.mono (by decide)) (by rfl) T.d_is_stretch.g T.d_is_stretch.F.kp T.d_is_stretch.b .nil pass0 (pa_cons (pe_ix (ix_tupK (K := K) rfl) (pv 0) pe_int (fun _ _ => rfl)) (pa_cons (pe_ix (ix_tupK (K := K) rfl) (pv 0) pe_int (fun _ _ => rfl)) (pa_cons (pv 2) pa_nil))))))))), ?_⟩
    tm_at "rzs"
    cases hv with
    | other v t h n =>
      refine ⟨v, t, rfl, h, ?_⟩
      have e : decide (t = "tuple") = false := decide_eq_false n
      refine ⟨_, rfl, ?_⟩
      show if (!decide (t = "tuple")) = true then _ else _
      rw [e]
      tm_at "rzs"
      exact k
    | tup a xs h hx =>
      refine ⟨_, _, rfl, .tup h, ?_⟩
      tm_at "rzs"
      by_cases e4 : xs.length = 4
      · obtain ⟨x, y, w, d, rfl⟩ := four e4
        obtain ⟨tx, hx0⟩ := hx x (by simp)
        obtain ⟨ty, hy0⟩ := hx y (by simp)
        obtain ⟨tw, hw0⟩ := hx w (by simp)
        obtain ⟨td, hd0⟩ := hx d (by simp)
        tm_at "rzs"
        refine ⟨x, w, c, tx, tw, rfl, hx0, hw0, ?_⟩
        tm_at "rzs"
        have kk : ∀ b : Bool, b = (strchB x w c && strchB y d r) → Q (.bl b) H := fun b e => by rw [e]; exact k
        cases e : strchB x w c with
        | true =>
          rw [e] at kk
          tm_at "rzs"
          refine ⟨y, d, r, ty, td, rfl, hy0, hd0, ?_⟩
          tm_at "rzs"
          exact kk _ (by simp)
        | false =>
          rw [e] at kk
          refine iteF' rfl ?_
          tm_at "rzs"
          exact kk _ (by simp)
      · refine iteT' (by rw [int_inj_dec, decide_eq_false (by omega)]; rfl) ?_
        tm_at "rzs"
        have e : spotB c r (some xs) = false := by
          unfold spotB
          split
          · rename_i e; cases e; exact absurd rfl e4
          · rfl
        rw [e] at k
        exact k
end
end My
namespace My
open PySem PySem.Spec PyProof.Rows L2
section
variable {P : Program} {w : World} {K : PySem.W.Frag} {mg : Str → Option Value} {base : Heap}
def sp_apart : Sp := fun vs H Q _ => ∃ (a b : Addr) (x y w d x' y' w' d' : Int), vs = [.ref a, .ref b] ∧ H a = some (.tup [.int x, .int y, .int w, .int d]) ∧ H b = some (.tup [.int x', .int y', .int w', .int d']) ∧ Q (.bl (apartI x y w d x' y' w' d')) H
theorem ok_apart (T : Tx K mg) : FnOk P w K mg base CX0 1 T.d_apart.f T.d_apart.fd ["one", "other"] (sp_apart) := by
  refine T.d_apart.F.ok sc_apart (fun vs H Q E h => ?_) (fun cdv A outer s H vs Q E hr h => ?_)
  · obtain ⟨a, b, x, y, w, d, x', y', w', d', rfl, _⟩ := h
    rfl
  · obtain ⟨a, b, x, y, w, d, x', y', w', d', rfl, ha, hb, k⟩ := h
    refine ⟨_, (pss_cons (ps_set (i := 2) sc_apart.nd rfl (Or.inl rfl) (pe_or (pe_cmpR op_le (pe_op op_add (pe_ix (ix_tupK (K := K) rfl) (pv 0) pe_int (fun _ _ => rfl)) (pe_ix (ix_tupK (K := K) rfl) (pv 0) pe_int (fun _ _ => rfl))) (pe_ix (ix_tupK (K := K) rfl) (pv 1) pe_int (fun _ _ => rfl)) (nomark _)) (pe_one (pe_cmpR op_le (pe_op op_add (pe_ix (ix_tupK (K := K) rfl) (pv 1) pe_int (fun _ _ => rfl)) (pe_ix (ix_tupK (K := K) rfl) (pv 1) pe_int (fun _ _ => rfl))) (pe_ix (ix_tupK (K := K) rfl) (pv 0) pe_int (fun _ _ => rfl)) (nomark _)))))
      (pss_one (ps_ret (pe_or (pv 2) (pe_or (pe_cmpR op_le (pe_op op_add (pe_ix (ix_tupK (K := K) rfl) (pv 0) pe_int (fun _ _ => rfl)) (pe_ix (ix_tupK (K := K) rfl) (pv 0) pe_int (fun _ _ => rfl))) (pe_ix (ix_tupK (K := K) rfl) (pv 1) pe_int (fun _ _ => rfl)) (nomark _)) (pe_one (pe_cmpR op_le (pe_op op_add (pe_ix (ix_tupK (K := K) rfl) (pv 1) pe_int (fun _ _ => rfl)) (pe_ix (ix_tupK (K := K) rfl) (pv 1) pe_int (fun _ _ => rfl))) (pe_ix (ix_tupK (K := K) rfl) (pv 0) pe_int (fun _ _ => rfl)) (nomark _)))))))), ?_⟩
    tm_at "rzs"
    have kk : ∀ b : Bool, b = apartI x y w d x' y' w' d' → Q (.bl b) H := fun b e => by rw [e]; exact k
    by_cases e1 : x + w ≤ x'
    · refine iteT' (decide_eq_true e1) ?_
      tm_at "rzs"
      exact kk _ (by unfold apartI; rw [decide_eq_true e1]; rfl)
    refine iteF' (decide_eq_false e1) ?_
    tm_at "rzs"
    by_cases e2 : x' + w' ≤ x
    · refine iteT' (decide_eq_true e2) ?_
      exact kk _ (by unfold apartI; rw [decide_eq_true e2]; simp)
    refine iteF' (decide_eq_false e2) ?_
    tm_at "rzs"
    by_cases e3 : y + d ≤ y'
    · refine iteT' (decide_eq_true e3) ?_
      exact kk _ (by unfold apartI; rw [decide_eq_true e3]; simp)
    refine iteF' (decide_eq_false e3) ?_
    tm_at "rzs"
    refine kk _ ?_
    unfold apartI
    rw [decide_eq_false e1, decide_eq_false e2, decide_eq_false e3]
    simp
end
end My
namespace My
open PySem PySem.Spec PyProof.Rows L2
section
variable {P : Program} {w : World} {K : PySem.W.Frag} {mg : Str → Option Value} {base : Heap}
def sp_may_stand : Sp := fun vs H Q _ => ∃ (v : V) (b : Addr) (o : Option (List V)) (ws : List V) (pre : List (Option (List V))) (c r : Int), vs = [v, .ref b, .int c, .int r] ∧ ThAt H v o ∧ H b = some (.lst ws) ∧ ThsAt H ws pre ∧ (∀ p ∈ pre, spotB c r p = true) ∧ pre.length ≤ 1000 ∧ ∀ H', Same H H' → Q (.bl (spotB c r o && pre.all (apartO o))) H'
theorem ok_may_stand (T : Tx K mg) : FnOk P w K mg base CX0 5 T.d_may_stand.f T.d_may_stand.fd ["spot", "spots", "columns", "rows"] (sp_may_stand) := by
  refine T.d_may_stand.F.ok sc_may_stand (fun vs H Q E h => ?_) (fun cdv A outer s H vs Q E hr h => ?_)
  · obtain ⟨v, b, o, ws, pre, c, r, rfl, _⟩ := h
    rfl
  · obtain ⟨v, b, o, ws, pre, c, r, rfl, hv, hb, hp, hok, hl, k⟩ := h
    refine ⟨_, (pss_one (ps_ret (pe_and (pe_call (ok_is_spot T) (hr.mono (by decide)) (by rfl) T.d_is_spot.g T.d_is_spot.F.kp T.d_is_spot.b .nil pass0 (pa_cons (pv 0) (pa_cons (pv 2) (pa_cons (pv 3) pa_nil)))) (pe_one (pe_callB (cr_allK (K := K) rfl rfl) (by rfl) T.b_all (by decide +kernel) (pa_cons (pe_lc (own := [("one", 4)]) (g := gName 4) (by rfl) sc_may_stand.nd (pi_listK (K := K) rfl (pv 1)) (blkOk_by (own := [("one", 4)]) (N := N_may_stand) (sc := defScope s_may_stand) (by decide +kernel)) (fun _ _ _ _ _ => (pg_name (i := 4) sc_may_stand.nd rfl (Or.inl rfl))) (fun _ _ _ _ _ => pts_nil) (fun _ _ _ _ _ => (pe_call (ok_apart T) (hr.mono (by decide)) (by rfl) T.d_apart.g T.d_apart.F.kp T.d_apart.b .nil pass0 (pa_cons (pv 0) (pa_cons (pv 4) pa_nil))))) pa_nil)))))), ?_⟩
    tm_at "rzs"
    refine ⟨v, o, c, r, rfl, hv, ?_⟩
    tm_at "rzs"
    have kk : ∀ (b : Bool) H', Same H H' → b = (spotB c r o && pre.all (apartO o)) → Q (.bl b) H' := fun b H' s e => by rw [e]; exact k H' s
    by_cases e1 : spotB c r o = true
    rotate_left
    · have e1 : spotB c r o = false := by simpa using e1
      refine iteF' e1 ?_
      exact kk _ _ (Same.refl _) (by rw [e1]; rfl)
    refine iteT' e1 ?_
    obtain ⟨x, y, w, d, ho, -⟩ := spot_int e1
    subst ho
    obtain ⟨a, rfl, ha⟩ := hv.four
    tm_at "rzs"
    refine ⟨⟨_, sqL hb⟩, fun D hD => lcLx (K := K) (xs := ws) (fun i => .bl (apartO (four4 x y w d) (pre.getD i none))) hD (sqL hb) (by rw [hp.1]; omega) (fun i z H2 Kt Kf hx s2 kq => ?_) (fun H2 s2 g2 => ?_)⟩
    · obtain ⟨q, hq⟩ : ∃ q, pre[i]? = some q := ⟨_, List.getElem?_eq_getElem (by have := (List.getElem?_eq_some_iff.mp hx).1; have := hp.1; omega)⟩
      have hz := hp.2 i z q hx hq
      obtain ⟨x', y', w', d', e, -⟩ := spot_int (hok q (List.mem_of_getElem? hq))
      subst e
      obtain ⟨a', rfl, ha'⟩ := hz.four
      have kq' := kq H2 (Same.refl _)
      have eq : pre.getD i none = four4 x' y' w' d' := by rw [List.getD_eq_getElem?_getD, hq]; rfl
      rw [eq] at kq'
      tm_at "rzs"
      refine ⟨a, a', x, y, w, d, x', y', w', d', rfl, s2 _ _ ha, s2 _ _ ha', ?_⟩
      tm_at "rzs"
      exact kq'
    rw [bls _ fun i => apartO (four4 x y w d) (pre.getD i none)] at g2
    tm_at "rzs"
    refine ⟨D, _, rfl, sqL g2, ?_⟩
    refine kk _ _ s2 ?_
    rw [e1, hp.1, all_getD pre]
    rfl
end
end My
namespace My
open PySem PySem.Spec PyProof.Rows L2
section
variable {P : Program} {w : World} {K : PySem.W.Frag} {mg : Str → Option Value} {base : Heap}
def sp_are_spots : Sp := fun vs H Q _ => ∃ (a : Addr) (ws : List V) (os : List (Option (List V))) (m : Nat) (c r : Int), vs = [.ref a, .int (m : Int), .int c, .int r] ∧ H a = some (.lst ws) ∧ ThsAt H ws os ∧ os.length ≤ 1000 ∧ ∀ H', Same H H' → Q (.bl (decide (os.length = m) && stB c r [] os)) H'
theorem ok_are_spots (T : Tx K mg) : FnOk P w K mg base CX0 6 T.d_are_spots.f T.d_are_spots.fd ["thing", "many", "columns", "rows"] (sp_are_spots) := by
  refine T.d_are_spots.F.ok sc_are_spots (fun vs H Q E h => ?_) (fun cdv A outer s H vs Q E hr h => ?_)
  · obtain ⟨a, ws, os, m, c, r, rfl, _⟩ := h
    rfl
  · obtain ⟨a, ws, os, m, c, r, rfl, ha, ho, hl, k⟩ := h
    refine ⟨_, (pss_cons (ps_if (PW.pt (pw_or (pt_not (pt_val (pe_callB is_list (by rfl) T.b_isinstance (by decide +kernel) (pa_cons (pv 0) (pa_cons (pe_bltn (v := .ty "list") (by rfl) T.b_list (by decide +kernel) rfl) pa_nil))))) (pw_or1 (pt_cmpR op_ne (pe_callB (call_lenK (K := K) rfl) (by rfl) T.b_len (by decide +kernel) (pa_cons (pv 0) pa_nil)) (pv 1) (nomark _)))))
      (pss_one (ps_ret pe_bl))
      pss_nil)
      (pss_cons (ps_for PassesOwn.never (by rfl) (pi_enumK (K := K) rfl (by rfl) T.b_enumerate (pa_cons (pv 0) pa_nil)) (pg_tup (by rfl) (pgs_cons (pg_name (i := 4) sc_are_spots.nd rfl (Or.inl rfl)) (pgs_cons (pg_name (i := 5) sc_are_spots.nd rfl (Or.inl rfl)) pgs_nil)))
      (pss_one (ps_if (pt_not (pt_val (pe_call (ok_may_stand T) (hr.mono (by decide)) (by rfl) T.d_may_stand.g T.d_may_stand.F.kp T.d_may_stand.b .nil pass0 (pa_cons (pv 5) (pa_cons (pe_slice (sl_listK (K := K) rfl) (pv 0) po_none (po_some (pv 4))) (pa_cons (pv 2) (pa_cons (pv 3) pa_nil)))))))
      (pss_one (ps_ret pe_bl))
      pss_nil)))
      (pss_one (ps_ret pe_bl)))), ?_⟩
    tm_at "rzs"
    have kk : ∀ (b : Bool) H', Same H H' → b = (decide (os.length = m) && stB c r [] os) → Q (.bl b) H' := fun b H' s e => by rw [e]; exact k H' s
    by_cases e0 : os.length = m
    rotate_left
    · refine iteT' (by rw [int_inj_dec, decide_eq_false (by rw [ho.1]; omega)]; rfl) ?_
      tm_at "rzs"
      exact kk _ _ (Same.refl _) (by rw [decide_eq_false e0]; rfl)
    refine iteF' (by rw [int_inj_dec, decide_eq_true (by rw [ho.1]; omega)]; rfl) ?_
    tm_at "rzs"
    have nd : ∀ p o, os[p]? = some o → (∀ q ∈ os.take p, spotB c r q = true) → (spotB c r o && (os.take p).all (apartO o)) = false → stB c r [] os = false := fun p o hp _ hf => by
      cases e : stB c r [] os with
      | false => rfl
      | true => have := (stB_step os []).mp e p o hp; rw [List.nil_append, hf] at this; cases this
    refine ⟨a, _, rfl, sqL ha, for_enum (K := K) (xs := ws) (fun p σ H' => ∃ v4 v5 : Option V, σ = [some (.ref a), some (.int (m : Int)), some (.int c), some (.int r), v4, v5] ∧ Same H H' ∧ ∀ i o, i < p → os[i]? = some o → (spotB c r o && (os.take i).all (apartO o)) = true)
      ⟨none, none, rfl, Same.refl _, fun i o h => absurd h (Nat.not_lt_zero i)⟩ (fun p σ H' ⟨_, _, _, b, _⟩ => sqL (b _ _ ha)) ?_ ?_⟩
    · rintro p x T1 σ H3 H4 hx ⟨v4, v5, rfl, b3, g3⟩ nT sT gT
      obtain ⟨o, hq⟩ : ∃ q, os[p]? = some q := ⟨_, List.getElem?_eq_getElem (by have := (List.getElem?_eq_some_iff.mp hx).1; have := ho.1; omega)⟩
      have hp := (List.getElem?_eq_some_iff.mp hq).1
      have hz := (ho.2 p x o hx hq).same (b3.trans sT)
      have ha4 := sT _ _ (b3 _ _ ha)
      have hall : ∀ q ∈ os.take p, spotB c r q = true := fun q mq => by
        obtain ⟨i, hi, rfl⟩ := List.mem_iff_getElem.mp mq
        rw [List.length_take] at hi
        have hg := g3 i os[i] (by omega) (List.getElem?_eq_getElem (by omega))
        rw [Bool.and_eq_true] at hg
        rw [List.getElem_take]
        exact hg.1
      refine ⟨_, _, rfl, sqT gT, rfl, ?_⟩
      tm_at "rzs"
      refine ⟨a, _, rfl, sqL ha4, fun p2 H5 f5 s5 g5 => ?_⟩
      tm_at "rzs"
      rw [cutV_take] at g5
      have hz5 := hz.same s5
      tm_at "rzs"
      refine ⟨x, p2, o, ws.take p, os.take p, c, r, rfl, hz5, g5, (ho.take p).same (b3.trans (sT.trans s5)), hall, by rw [List.length_take]; omega, fun H6 s6 => ?_⟩
      tm_at "rzs"
      have s06 := b3.trans (sT.trans (s5.trans s6))
      cases e : (spotB c r o && (os.take p).all (apartO o)) with
      | true =>
        refine iteF' rfl ?_
        refine ⟨_, _, rfl, s06, fun i q hi hq2 => ?_⟩
        rcases Nat.lt_or_ge i p with h | h
        · exact g3 i q h hq2
        · obtain rfl : i = p := by omega
          obtain rfl : q = o := Option.some.inj (hq2.symm.trans hq)
          exact e
      | false =>
        refine iteT' rfl ?_
        tm_at "rzs"
        exact kk _ _ s06 (by rw [nd p o hq hall e]; simp)
    · rintro σ H3 ⟨v4, v5, rfl, b3, g3⟩
      tm_at "rzs"
      refine kk _ _ b3 ?_
      rw [decide_eq_true e0, (stB_step os []).mpr fun p o hp => by rw [List.nil_append]; exact g3 p o (by rw [ho.1]; exact (List.getElem?_eq_some_iff.mp hp).1) hp]
      rfl
end
end My
namespace My
open PySem PySem.Spec PyProof.Rows L2
section
variable {P : Program} {w : World} {K : PySem.W.Frag} {mg : Str → Option Value} {base : Heap}
def sp_is_part : Sp := fun vs H Q _ => ∃ (v : V), vs = [v] ∧ ((∃ t, Ty7 H v t ∧ t ≠ "tuple" ∧ Q (.bl false) H) ∨ ∃ (a : Addr) (xs : List V), v = .ref a ∧ H a = some (.tup xs) ∧ Q (.bl (decide (xs.length = 2))) H)
theorem ok_is_part (T : Tx K mg) : FnOk P w K mg base CX0 1 T.d_is_part.f T.d_is_part.fd ["size"] (sp_is_part) := by
  refine T.d_is_part.F.ok sc_is_part (fun vs H Q E h => ?_) (fun cdv A outer s H vs Q E hr h => ?_)
  · obtain ⟨v, rfl, _⟩ := h
    rfl
  · obtain ⟨v, rfl, k⟩ := h
    refine ⟨_, (pss_one (ps_ret (pe_and (pe_callB is_tuple (by rfl) T.b_isinstance (by decide +kernel) (pa_cons (pv 0) (pa_cons (pe_bltn (v := .ty "tuple") (by rfl) T.b_tuple (by decide +kernel) rfl) pa_nil))) (pe_one (pe_cmpR op_eq (pe_callB (call_lenK (K := K) rfl) (by rfl) T.b_len (by decide +kernel) (pa_cons (pv 0) pa_nil)) pe_int (nomark _)))))), ?_⟩
    tm_at "rzs"
    rcases k with ⟨t, ht, hn, k⟩ | ⟨a, xs, rfl, ha, k⟩
    · refine ⟨v, t, rfl, ht, ?_⟩
      have e : decide (t = "tuple") = false := decide_eq_false hn
      refine ⟨_, rfl, ?_⟩
      show if decide (t = "tuple") = true then _ else _
      rw [e]
      tm_at "rzs"
      exact k
    · refine ⟨_, _, rfl, .tup ha, ?_⟩
      tm_at "rzs"
      rw [show decide (V.int (xs.length : Int) = V.int 2) = decide (xs.length = 2) from by rw [int_inj_dec]; exact decide_eq_decide.mpr (by omega)]
      exact k
end
end My
namespace My
open PySem PySem.Spec PyProof.Rows L2
section
variable {P : Program} {w : World} {K : PySem.W.Frag} {mg : Str → Option Value} {base : Heap}
def sp_is_tie : Sp := fun vs H Q _ => ∃ (v : V), vs = [v] ∧ ((∃ t, Ty7 H v t ∧ t ≠ "tuple" ∧ Q (.bl false) H) ∨ ∃ (a : Addr) (xs : List V), v = .ref a ∧ H a = some (.tup xs) ∧ Q (.bl (decide (xs.length = 4))) H)
theorem ok_is_tie (T : Tx K mg) : FnOk P w K mg base CX0 1 T.d_is_tie.f T.d_is_tie.fd ["size"] (sp_is_tie) := by
  refine T.d_is_tie.F.ok sc_is_tie (fun vs H Q E h => ?_) (fun cdv A outer s H vs Q E hr h => ?_)
  · obtain ⟨v, rfl, _⟩ := h
    rfl
  · obtain ⟨v, rfl, k⟩ := h
    refine ⟨_, (pss_one (ps_ret (pe_and (pe_callB is_tuple (by rfl) T.b_isinstance (by decide +kernel) (pa_cons (pv 0) (pa_cons (pe_bltn (v := .ty "tuple") (by rfl) T.b_tuple (by decide +kernel) rfl) pa_nil))) (pe_one (pe_cmpR op_eq (pe_callB (call_lenK (K := K) rfl) (by rfl) T.b_len (by decide +kernel) (pa_cons (pv 0) pa_nil)) pe_int (nomark _)))))), ?_⟩
    tm_at "rzs"
    rcases k with ⟨t, ht, hn, k⟩ | ⟨a, xs, rfl, ha, k⟩
    · refine ⟨v, t, rfl, ht, ?_⟩
      have e : decide (t = "tuple") = false := decide_eq_false hn
      refine ⟨_, rfl, ?_⟩
      show if decide (t = "tuple") = true then _ else _
      rw [e]
      tm_at "rzs"
      exact k
    · refine ⟨_, _, rfl, .tup ha, ?_⟩
      tm_at "rzs"
      rw [show decide (V.int (xs.length : Int) = V.int 4) = decide (xs.length = 4) from by rw [int_inj_dec]; exact decide_eq_decide.mpr (by omega)]
      exact k
end
end My
namespace My
open PySem PySem.Spec PyProof.Rows L2
section
variable {P : Program} {w : World} {K : PySem.W.Frag} {mg : Str → Option Value} {base : Heap}
def sp_is_size : Sp := fun vs H Q _ => ∃ (v : V), vs = [v] ∧ SzAt H v ∧ ∀ H', Same H H' → Q (.bl true) H'
theorem ok_is_size (T : Tx K mg) : FnOk P w K mg base CX0 3 T.d_is_size.f T.d_is_size.fd ["thing"] (sp_is_size) := by
  refine T.d_is_size.F.ok sc_is_size (fun vs H Q E h => ?_) (fun cdv A outer s H vs Q E hr h => ?_)
  · obtain ⟨v, rfl, _⟩ := h
    rfl
  · obtain ⟨v, rfl, hv, k⟩ := h
    refine ⟨_, (pss_cons (ps_if (PW.pt (pw_or (pt_cmpR op_isN (pv 0) pe_non (nomark _)) (pw_or1 (pt_val (pe_call (ok_is_count T) (hr.mono (by decide)) (by rfl) T.d_is_count.g T.d_is_count.F.kp T.d_is_count.b .nil pass0 (pa_cons (pv 0) pa_nil))))))
      (pss_one (ps_ret pe_bl))
      pss_nil)
      (pss_cons (ps_if (pt_val (pe_call (ok_is_part T) (hr.mono (by decide)) (by rfl) T.d_is_part.g T.d_is_part.F.kp T.d_is_part.b .nil pass0 (pa_cons (pv 0) pa_nil)))
      (pss_one (ps_ret (pe_and (pe_cmpR op_eq (pe_ix (ix_tupK (K := K) rfl) (pv 0) pe_int (fun _ _ => rfl)) pe_str (nomark _)) (pe_one (pe_call (ok_is_count T) (hr.mono (by decide)) (by rfl) T.d_is_count.g T.d_is_count.F.kp T.d_is_count.b .nil pass0 (pa_cons (pe_ix (ix_tupK (K := K) rfl) (pv 0) pe_int (fun _ _ => rfl)) pa_nil))))))
      pss_nil)
      (pss_cons (ps_if (PW.pt (pw_or (pt_not (pt_val (pe_call (ok_is_tie T) (hr.mono (by decide)) (by rfl) T.d_is_tie.g T.d_is_tie.F.kp T.d_is_tie.b .nil pass0 (pa_cons (pv 0) pa_nil)))) (pw_or (pt_cmpR op_ne (pe_ix (ix_tupK (K := K) rfl) (pv 0) pe_int (fun _ _ => rfl)) pe_str (nomark _)) (pw_or1 (pt_not (pt_val (pe_call (ok_is_name T) (hr.mono (by decide)) (by rfl) T.d_is_name.g T.d_is_name.F.kp T.d_is_name.b .nil pass0 (pa_cons (pe_ix (ix_tupK (K := K) rfl) (pv 0) pe_int (fun _ _ => rfl)) pa_nil))))))))
      (pss_one (ps_ret pe_bl))
      pss_nil)
      (pss_one (ps_ret (pe_and (pe_cmpR (op_inK (K := K) rfl) (pe_ix (ix_tupK (K := K) rfl) (pv 0) pe_int (fun _ _ => rfl)) (pe_glob (v := .ref T.U_SIDES) (by rfl) T.v_SIDES rfl) (by rfl)) (pe_one (pe_call (ok_is_whole T) (hr.mono (by decide)) (by rfl) T.d_is_whole.g T.d_is_whole.F.kp T.d_is_whole.b .nil pass0 (pa_cons (pe_ix (ix_tupK (K := K) rfl) (pv 0) pe_int (fun _ _ => rfl)) pa_nil))))))))), ?_⟩
    cases hv with
    | non =>
      tm_at "rzs"
      exact k _ (Same.refl _)
    | cells n =>
      tm_at "rzs"
      exact k _ (Same.refl _)
    | part a n h =>
      tm_at "rzs"
      refine .inr ⟨a, _, rfl, h, ?_⟩
      tm_at "rzs"
      rw [isN_nat]
      exact k _ (Same.refl _)
    | tie a l sd m hl hs h =>
      tm_at "rzs"
      refine .inr ⟨a, _, rfl, h, ?_⟩
      tm_at "rzs"
      refine .inr ⟨a, _, rfl, h, ?_⟩
      tm_at "rzs"
      intro H1 s1
      have h1 := s1 _ _ h
      tm_at "rzs"
      have hin : inV (sX sd) [.str (Str.ofString "wide"), .str (Str.ofString "tall")] = true := by
        rcases hs with rfl | rfl <;> decide +kernel
      refine ⟨_, _, rfl, .inr (T.t_SIDES _), rfl, rfl, ?_⟩
      rw [if_neg (by decide), hin]
      tm_at "rzs"
      exact k _ s1
end
end My
namespace My
open PySem PySem.Spec PyProof.Rows L2
section
variable {P : Program} {w : World} {K : PySem.W.Frag} {mg : Str → Option Value} {base : Heap}
def sp_is_bound : Sp := fun vs H Q _ => ∃ (v : V), vs = [v] ∧ BdAt v ∧ Q (.bl true) H
theorem ok_is_bound (T : Tx K mg) : FnOk P w K mg base CX0 3 T.d_is_bound.f T.d_is_bound.fd ["thing"] (sp_is_bound) := by
  refine T.d_is_bound.F.ok sc_is_bound (fun vs H Q E h => ?_) (fun cdv A outer s H vs Q E hr h => ?_)
  · obtain ⟨v, rfl, _⟩ := h
    rfl
  · obtain ⟨v, rfl, hv, k⟩ := h
    refine ⟨_, (pss_one (ps_ret (pe_or (pe_cmpR op_isN (pv 0) pe_non (nomark _)) (pe_one (pe_call (ok_is_count T) (hr.mono (by decide)) (by rfl) T.d_is_count.g T.d_is_count.F.kp T.d_is_count.b .nil pass0 (pa_cons (pv 0) pa_nil)))))), ?_⟩
    tm_at "rzs"
    rcases hv with rfl | ⟨n, rfl⟩
    · refine iteT' rfl ?_
      exact k
    · refine iteF' rfl ?_
      tm_at "rzs"
      rw [isN_nat]
      exact k
end
end My
namespace My
open PySem PySem.Spec PyProof.Rows L2
section
variable {P : Program} {w : World} {K : PySem.W.Frag} {mg : Str → Option Value} {base : Heap}
def sp_is_rims (K : PySem.W.Frag) : Sp := fun vs H Q _ => ∃ (v : V), vs = [v] ∧ RmAt K H v ∧ ∀ H', Same H H' → Q (.bl true) H'
theorem ok_is_rims (T : Tx K mg) : FnOk P w K mg base CX0 3 T.d_is_rims.f T.d_is_rims.fd ["thing"] (sp_is_rims K) := by
  refine T.d_is_rims.F.ok sc_is_rims (fun vs H Q E h => ?_) (fun cdv A outer s H vs Q E hr h => ?_)
  · obtain ⟨v, rfl, _⟩ := h
    rfl
  · obtain ⟨v, rfl, hv, k⟩ := h
    refine ⟨_, (pss_one (ps_ret (pe_and (pe_callB (call_isTupK (K := K) rfl) (by rfl) T.b_isinstance (by decide +kernel) (pa_cons (pv 0) (pa_cons (pe_bltn (v := .ty "tuple") (by rfl) T.b_tuple (by decide +kernel) rfl) pa_nil))) (pe_and (pe_cmpR op_eq (pe_callB (call_lenK (K := K) rfl) (by rfl) T.b_len (by decide +kernel) (pa_cons (pv 0) pa_nil)) pe_int (nomark _)) (pe_one (pe_callB (cr_allK (K := K) rfl rfl) (by rfl) T.b_all (by decide +kernel) (pa_cons (pe_lc (own := [("rim", 1)]) (g := gName 1) (by rfl) sc_is_rims.nd (pi_tupK (K := K) rfl (pv 0)) (blkOk_by (own := [("rim", 1)]) (N := N_is_rims) (sc := defScope s_is_rims) (by decide +kernel)) (fun _ _ _ _ _ => (pg_name (i := 1) sc_is_rims.nd rfl (Or.inl rfl))) (fun _ _ _ _ _ => pts_nil) (fun _ _ _ _ _ => (pe_call (ok_is_count T) (hr.mono (by decide)) (by rfl) T.d_is_count.g T.d_is_count.F.kp T.d_is_count.b .nil pass0 (pa_cons (pv 1) pa_nil)))) pa_nil))))))), ?_⟩
    obtain ⟨a, n0, n1, n2, n3, rfl, ha⟩ := hv
    tm_at "rzs"
    refine .inr ⟨a, _, rfl, ha, ?_⟩
    tm_at "rzs"
    refine ⟨⟨_, ha⟩, fun D hD => lcTm (K := K) (ys := [n0, n1, n2, n3]) (fun n : Nat => V.int (n : Int)) (fun _ => V.bl true) hD ha (Nat.le_of_ble_eq_true rfl) (fun i y H1 Kt Kf hy s1 kt => ?_) (fun H1 s1 g1 => ?_)⟩
    · tm_at "rzs"
      rw [isN_nat]
      exact kt _ (Same.refl _)
    tm_at "rzs"
    refine ⟨D, [true, true, true, true], rfl, sqL g1, ?_⟩
    exact k H1 s1
end
end My
namespace My
open PySem PySem.Spec PyProof.Rows L2
section
variable {P : Program} {w : World} {K : PySem.W.Frag} {mg : Str → Option Value} {base : Heap}
theorem kb_Style_init_1_ (T : Tx K mg) : ∃ mv : List Value, KBn K T.d_Style_init.fd ["self", "wide", "high", "least_wide", "least_high", "most_wide", "most_high", "grow", "shrink", "rims", "stand"] 1 [] (fun us ws => pick1 0 us ++ pick1 0 mv ++ pick1 1 mv ++ pick1 2 mv ++ pick1 3 mv ++ pick1 4 mv ++ pick1 5 mv ++ pick1 6 mv ++ pick1 7 mv ++ pick1 8 mv ++ pick1 9 mv) (fun vs zs => pick1 0 vs ++ pick1 0 (([("wide", .non), ("high", .non), ("least_wide", .non), ("least_high", .non), ("most_wide", .non), ("most_high", .non), ("grow", .int 0), ("shrink", .int 1), ("rims", .ref T.U_NO_RIMS), ("stand", .non)] : List (Str × V)).map (·.2)) ++ pick1 1 (([("wide", .non), ("high", .non), ("least_wide", .non), ("least_high", .non), ("most_wide", .non), ("most_high", .non), ("grow", .int 0), ("shrink", .int 1), ("rims", .ref T.U_NO_RIMS), ("stand", .non)] : List (Str × V)).map (·.2)) ++ pick1 2 (([("wide", .non), ("high", .non), ("least_wide", .non), ("least_high", .non), ("most_wide", .non), ("most_high", .non), ("grow", .int 0), ("shrink", .int 1), ("rims", .ref T.U_NO_RIMS), ("stand", .non)] : List (Str × V)).map (·.2)) ++ pick1 3 (([("wide", .non), ("high", .non), ("least_wide", .non), ("least_high", .non), ("most_wide", .non), ("most_high", .non), ("grow", .int 0), ("shrink", .int 1), ("rims", .ref T.U_NO_RIMS), ("stand", .non)] : List (Str × V)).map (·.2)) ++ pick1 4 (([("wide", .non), ("high", .non), ("least_wide", .non), ("least_high", .non), ("most_wide", .non), ("most_high", .non), ("grow", .int 0), ("shrink", .int 1), ("rims", .ref T.U_NO_RIMS), ("stand", .non)] : List (Str × V)).map (·.2)) ++ pick1 5 (([("wide", .non), ("high", .non), ("least_wide", .non), ("least_high", .non), ("most_wide", .non), ("most_high", .non), ("grow", .int 0), ("shrink", .int 1), ("rims", .ref T.U_NO_RIMS), ("stand", .non)] : List (Str × V)).map (·.2)) ++ pick1 6 (([("wide", .non), ("high", .non), ("least_wide", .non), ("least_high", .non), ("most_wide", .non), ("most_high", .non), ("grow", .int 0), ("shrink", .int 1), ("rims", .ref T.U_NO_RIMS), ("stand", .non)] : List (Str × V)).map (·.2)) ++ pick1 7 (([("wide", .non), ("high", .non), ("least_wide", .non), ("least_high", .non), ("most_wide", .non), ("most_high", .non), ("grow", .int 0), ("shrink", .int 1), ("rims", .ref T.U_NO_RIMS), ("stand", .non)] : List (Str × V)).map (·.2)) ++ pick1 8 (([("wide", .non), ("high", .non), ("least_wide", .non), ("least_high", .non), ("most_wide", .non), ("most_high", .non), ("grow", .int 0), ("shrink", .int 1), ("rims", .ref T.U_NO_RIMS), ("stand", .non)] : List (Str × V)).map (·.2)) ++ pick1 9 (([("wide", .non), ("high", .non), ("least_wide", .non), ("least_high", .non), ("most_wide", .non), ("most_high", .non), ("grow", .int 0), ("shrink", .int 1), ("rims", .ref T.U_NO_RIMS), ("stand", .non)] : List (Str × V)).map (·.2))) := by
  exact T.d_Style_init.FD.kbinds0 1 [] [("wide", .non), ("high", .non), ("least_wide", .non), ("least_high", .non), ("most_wide", .non), ("most_high", .non), ("grow", .int 0), ("shrink", .int 1), ("rims", .ref T.U_NO_RIMS), ("stand", .non)] (fun us mv ws => pick1 0 us ++ pick1 0 mv ++ pick1 1 mv ++ pick1 2 mv ++ pick1 3 mv ++ pick1 4 mv ++ pick1 5 mv ++ pick1 6 mv ++ pick1 7 mv ++ pick1 8 mv ++ pick1 9 mv) (by intro z; cases z) (fun q hq => List.Sublist.subset (show List.Sublist _ _ from (.cons₂ _ (.cons₂ _ (.cons₂ _ (.cons₂ _ (.cons₂ _ (.cons₂ _ (.cons₂ _ (.cons₂ _ (.cons₂ _ (.cons₂ _ .slnil))))))))))) hq) (fun r1 rm r2 => (((((((((((vals_pick r1 0).append (vals_pick rm 0)).append (vals_pick rm 1)).append (vals_pick rm 2)).append (vals_pick rm 3)).append (vals_pick rm 4)).append (vals_pick rm 5)).append (vals_pick rm 6)).append (vals_pick rm 7)).append (vals_pick rm 8)).append (vals_pick rm 9)))
    (fun D doc pm an cdv ct us mv ws h1 hm h2 => match us, mv, ws, h1, hm, h2 with | [_], [_, _, _, _, _, _, _, _, _, _], [], _, _, _ => ⟨_, _, _, _, _, _, rfl, rfl, ⟨_, _, _, _, _, _, rfl, rfl, ⟨_, _, _, _, _, _, rfl, rfl, ⟨_, _, _, _, _, _, rfl, rfl, ⟨_, _, _, _, _, _, rfl, rfl, ⟨_, _, _, _, _, _, rfl, rfl, ⟨_, _, _, _, _, _, rfl, rfl, ⟨_, _, _, _, _, _, rfl, rfl, ⟨_, _, _, _, _, _, rfl, rfl, ⟨_, _, _, _, _, _, rfl, rfl, rfl⟩⟩⟩⟩⟩⟩⟩⟩⟩⟩)
theorem ok_Style_init (T : Tx K mg) : FnOk P w K mg base CX0 4 T.d_Style_init.f T.d_Style_init.fd ["self", "wide", "high", "least_wide", "least_high", "most_wide", "most_high", "grow", "shrink", "rims", "stand"] (sp_Style_init K T.c_Style.C) := by
  refine T.d_Style_init.F.ok sc_Style_init (fun vs H Q E h => ?_) (fun cdv A outer s H vs Q E hr h => ?_)
  · obtain ⟨x, dx, w, h, lw, lh, mw, mh, g, s, r, st, rfl, _⟩ := h
    rfl
  · obtain ⟨x, dx, w, h, lw, lh, mw, mh, g, s, r, st, rfl, hx, hv, k⟩ := h
    obtain ⟨gn, rfl⟩ := hv.g
    obtain ⟨sn, rfl⟩ := hv.s
    refine ⟨_, (pss_cons (ps_set (i := 11) sc_Style_init.nd rfl (Or.inl rfl) (pe_and (pe_call (ok_is_size T) (hr.mono (by decide)) (by rfl) T.d_is_size.g T.d_is_size.F.kp T.d_is_size.b .nil pass0 (pa_cons (pv 1) pa_nil)) (pe_one (pe_call (ok_is_size T) (hr.mono (by decide)) (by rfl) T.d_is_size.g T.d_is_size.F.kp T.d_is_size.b .nil pass0 (pa_cons (pv 2) pa_nil)))))
      (pss_cons (ps_set (i := 12) sc_Style_init.nd rfl (Or.inl rfl) (pe_callB (cr_allK (K := K) rfl rfl) (by rfl) T.b_all (by decide +kernel) (pa_cons (pe_lc (own := [("one", 13)]) (g := gName 13) (by rfl) sc_Style_init.nd (pi_tupK (K := K) rfl (pe_tupA (pa_cons (pv 3) (pa_cons (pv 4) (pa_cons (pv 5) (pa_cons (pv 6) pa_nil)))))) (blkOk_by (own := [("one", 13)]) (N := N_Style_init) (sc := defScope s_Style_init) (by decide +kernel)) (fun _ _ _ _ _ => (pg_name (i := 13) sc_Style_init.nd rfl (Or.inl rfl))) (fun _ _ _ _ _ => pts_nil) (fun _ _ _ _ _ => (pe_call (ok_is_bound T) (hr.mono (by decide)) (by rfl) T.d_is_bound.g T.d_is_bound.F.kp T.d_is_bound.b .nil pass0 (pa_cons (pv 13) pa_nil)))) pa_nil)))
      (pss_cons (ps_if (PW.pt (pw_or (pt_not (pt_val (pv 11))) (pw_or1 (pt_not (pt_val (pv 12))))))
      (pss_one ps_never)
      pss_nil)
      (pss_cons (ps_if (PW.pt (pw_or (pt_not (pt_val (pe_call (ok_is_count T) (hr.mono (by decide)) (by rfl) T.d_is_count.g T.d_is_count.F.kp T.d_is_count.b .nil pass0 (pa_cons (pv 7) pa_nil)))) (pw_or (pt_not (pt_val (pe_call (ok_is_count T) (hr.mono (by decide)) (by rfl) T.d_is_count.g T.d_is_count.F.kp T.d_is_count.b .nil pass0 (pa_cons (pv 8) pa_nil)))) (pw_or1 (pt_not (pt_val (pe_call (ok_is_rims T) (hr.mono (by decide)) (by rfl) T.d_is_rims.g T.d_is_rims.F.kp T.d_is_rims.b .nil pass0 (pa_cons (pv 9) pa_nil))))))))
      (pss_one ps_never)
      pss_nil)
      (pss_cons (ps_if (PW.pt (pw_and (pt_cmpR op_notN (pv 10) pe_non (nomark _)) (pw_and1 (pt_cmpR (op_notInK (K := K) rfl) (pv 10) (pe_glob (v := .ref T.U_STANDS) (by rfl) T.v_STANDS rfl) (by rfl)))))
      (pss_one ps_never)
      pss_nil)
      (pss_cons (ps_asg (pe_tupA (pa_cons (pv 1) (pa_cons (pv 2) pa_nil))) (pg_tup (by rfl) (pgs_cons (pg_fldK (K := K) rfl (pv 0)) (pgs_cons (pg_fldK (K := K) rfl (pv 0)) pgs_nil))))
      (pss_cons (ps_asg (pe_tupA (pa_cons (pv 3) (pa_cons (pv 4) pa_nil))) (pg_tup (by rfl) (pgs_cons (pg_fldK (K := K) rfl (pv 0)) (pgs_cons (pg_fldK (K := K) rfl (pv 0)) pgs_nil))))
      (pss_cons (ps_asg (pe_tupA (pa_cons (pv 5) (pa_cons (pv 6) pa_nil))) (pg_tup (by rfl) (pgs_cons (pg_fldK (K := K) rfl (pv 0)) (pgs_cons (pg_fldK (K := K) rfl (pv 0)) pgs_nil))))
      (pss_cons (ps_asg (pe_tupA (pa_cons (pv 7) (pa_cons (pv 8) pa_nil))) (pg_tup (by rfl) (pgs_cons (pg_fldK (K := K) rfl (pv 0)) (pgs_cons (pg_fldK (K := K) rfl (pv 0)) pgs_nil))))
      (pss_one (ps_asg (pe_tupA (pa_cons (pv 9) (pa_cons (pv 10) pa_nil))) (pg_tup (by rfl) (pgs_cons (pg_fldK (K := K) rfl (pv 0)) (pgs_cons (pg_fldK (K := K) rfl (pv 0)) pgs_nil)))))))))))))), ?_⟩
    tm_at "rzs"
    refine ⟨hv.w, fun H1 s1 => ?_⟩
    tm_at "rzs"
    refine ⟨hv.h.same s1, fun H2 s2 => ?_⟩
    dsimp only [gName]
    tm_at "rzs"
    intro p3 H3 f3 s3 g3
    refine ⟨p3, rfl, ⟨_, sqT g3⟩, fun D hD => lcTm (K := K) (ys := [lw, lh, mw, mh]) (fun v : V => v) (fun _ => V.bl true) hD (sqT g3) (Nat.le_of_ble_eq_true rfl) (fun i y H4 Kt Kf hy s4 kt => ?_) (fun H4 s4 g4 => ?_)⟩
    · have hb : BdAt y := by
        have my := List.mem_of_getElem? hy
        rcases List.mem_cons.mp my with rfl | my
        · exact hv.lw
        rcases List.mem_cons.mp my with rfl | my
        · exact hv.lh
        rcases List.mem_cons.mp my with rfl | my
        · exact hv.mw
        · rw [List.mem_singleton.mp my]; exact hv.mh
      tm_at "rzs"
      exact kt _ (Same.refl _)
    tm_at "rzs"
    refine ⟨D, [true, true, true, true], rfl, sqL g4, ?_⟩
    dsimp only [gName]
    tm_at "rzs"
    have s04 := ((s1.trans s2).trans s3).trans s4
    refine ⟨hv.r.same s04, fun H5 s5 => ?_⟩
    tm_at "rzi"
    have s05 := s04.trans s5
    have hx5 := s05 _ _ hx
    rcases hv.st with hst | ⟨t, ht, hst⟩
    · refine iteF' (by rw [hst]; rfl) ?_
      tm_at "rzs"
      intro p6 H6 f6 s6 g6
      refine ⟨p6, _, rfl, sqT g6, rfl, ?_⟩
      refine ⟨_, _, rfl, ?_⟩
      refine ⟨_, rfl, x, _, dx, _, rfl, s6 _ _ hx5, T.c_Style.cls, T.n_Style_wide, Nat.lt_of_succ_le (Nat.le_of_ble_eq_true rfl), ?_⟩
      refine ⟨_, _, rfl, ?_⟩
      refine ⟨_, rfl, x, _, dx, _, rfl, upd_same, T.c_Style.cls, T.n_Style_high, Nat.lt_of_succ_le (Nat.le_of_ble_eq_true rfl), ?_⟩
      refine ⟨rfl, ?_⟩
      tm_at "rzs"
      intro p7 H7 f7 s7 g7
      refine ⟨p7, _, rfl, sqT g7, rfl, ?_⟩
      refine ⟨_, _, rfl, ?_⟩
      refine ⟨_, rfl, x, _, dx, _, rfl, s7 _ _ upd_same, T.c_Style.cls, T.n_Style_least_wide, Nat.lt_of_succ_le (Nat.le_of_ble_eq_true rfl), ?_⟩
      refine ⟨_, _, rfl, ?_⟩
      refine ⟨_, rfl, x, _, dx, _, rfl, upd_same, T.c_Style.cls, T.n_Style_least_high, Nat.lt_of_succ_le (Nat.le_of_ble_eq_true rfl), ?_⟩
      refine ⟨rfl, ?_⟩
      tm_at "rzs"
      intro p8 H8 f8 s8 g8
      refine ⟨p8, _, rfl, sqT g8, rfl, ?_⟩
      refine ⟨_, _, rfl, ?_⟩
      refine ⟨_, rfl, x, _, dx, _, rfl, s8 _ _ upd_same, T.c_Style.cls, T.n_Style_most_wide, Nat.lt_of_succ_le (Nat.le_of_ble_eq_true rfl), ?_⟩
      refine ⟨_, _, rfl, ?_⟩
      refine ⟨_, rfl, x, _, dx, _, rfl, upd_same, T.c_Style.cls, T.n_Style_most_high, Nat.lt_of_succ_le (Nat.le_of_ble_eq_true rfl), ?_⟩
      refine ⟨rfl, ?_⟩
      tm_at "rzs"
      intro p9 H9 f9 s9 g9
      refine ⟨p9, _, rfl, sqT g9, rfl, ?_⟩
      refine ⟨_, _, rfl, ?_⟩
      refine ⟨_, rfl, x, _, dx, _, rfl, s9 _ _ upd_same, T.c_Style.cls, T.n_Style_grow, Nat.lt_of_succ_le (Nat.le_of_ble_eq_true rfl), ?_⟩
      refine ⟨_, _, rfl, ?_⟩
      refine ⟨_, rfl, x, _, dx, _, rfl, upd_same, T.c_Style.cls, T.n_Style_shrink, Nat.lt_of_succ_le (Nat.le_of_ble_eq_true rfl), ?_⟩
      refine ⟨rfl, ?_⟩
      tm_at "rzs"
      intro p10 H10 f10 s10 g10
      refine ⟨p10, _, rfl, sqT g10, rfl, ?_⟩
      refine ⟨_, _, rfl, ?_⟩
      refine ⟨_, rfl, x, _, dx, _, rfl, s10 _ _ upd_same, T.c_Style.cls, T.n_Style_rims, Nat.lt_of_succ_le (Nat.le_of_ble_eq_true rfl), ?_⟩
      refine ⟨_, _, rfl, ?_⟩
      refine ⟨_, rfl, x, _, dx, _, rfl, upd_same, T.c_Style.cls, T.n_Style_stand, Nat.lt_of_succ_le (Nat.le_of_ble_eq_true rfl), ?_⟩
      refine ⟨rfl, ?_⟩
      refine k _ (by tm_at "bt") ?_
      rw [upd_same, styF_put]
    · refine iteT' (by rw [hst]; rfl) ?_
      have hin : inV (sX t) [.str (Str.ofString "start"), .str (Str.ofString "end"), .str (Str.ofString "middle"), .str (Str.ofString "stretch"), .str (Str.ofString "base")] = true := by
        have ht : t ∈ ["start", "end", "middle", "stretch", "base"] := ht
        simp only [List.mem_cons, List.not_mem_nil, or_false] at ht
        rcases ht with rfl | rfl | rfl | rfl | rfl <;> decide +kernel
      tm_at "rds"
      refine ⟨_, _, rfl, .inr (T.t_STANDS _), by rw [hst]; rfl, rfl, ?_⟩
      rw [if_pos rfl, hst, hin, ← hst]
      tm_at "rzs"
      intro p6 H6 f6 s6 g6
      refine ⟨p6, _, rfl, sqT g6, rfl, ?_⟩
      refine ⟨_, _, rfl, ?_⟩
      refine ⟨_, rfl, x, _, dx, _, rfl, s6 _ _ hx5, T.c_Style.cls, T.n_Style_wide, Nat.lt_of_succ_le (Nat.le_of_ble_eq_true rfl), ?_⟩
      refine ⟨_, _, rfl, ?_⟩
      refine ⟨_, rfl, x, _, dx, _, rfl, upd_same, T.c_Style.cls, T.n_Style_high, Nat.lt_of_succ_le (Nat.le_of_ble_eq_true rfl), ?_⟩
      refine ⟨rfl, ?_⟩
      tm_at "rzs"
      intro p7 H7 f7 s7 g7
      refine ⟨p7, _, rfl, sqT g7, rfl, ?_⟩
      refine ⟨_, _, rfl, ?_⟩
      refine ⟨_, rfl, x, _, dx, _, rfl, s7 _ _ upd_same, T.c_Style.cls, T.n_Style_least_wide, Nat.lt_of_succ_le (Nat.le_of_ble_eq_true rfl), ?_⟩
      refine ⟨_, _, rfl, ?_⟩
      refine ⟨_, rfl, x, _, dx, _, rfl, upd_same, T.c_Style.cls, T.n_Style_least_high, Nat.lt_of_succ_le (Nat.le_of_ble_eq_true rfl), ?_⟩
      refine ⟨rfl, ?_⟩
      tm_at "rzs"
      intro p8 H8 f8 s8 g8
      refine ⟨p8, _, rfl, sqT g8, rfl, ?_⟩
      refine ⟨_, _, rfl, ?_⟩
      refine ⟨_, rfl, x, _, dx, _, rfl, s8 _ _ upd_same, T.c_Style.cls, T.n_Style_most_wide, Nat.lt_of_succ_le (Nat.le_of_ble_eq_true rfl), ?_⟩
      refine ⟨_, _, rfl, ?_⟩
      refine ⟨_, rfl, x, _, dx, _, rfl, upd_same, T.c_Style.cls, T.n_Style_most_high, Nat.lt_of_succ_le (Nat.le_of_ble_eq_true rfl), ?_⟩
      refine ⟨rfl, ?_⟩
      tm_at "rzs"
      intro p9 H9 f9 s9 g9
      refine ⟨p9, _, rfl, sqT g9, rfl, ?_⟩
      refine ⟨_, _, rfl, ?_⟩
      refine ⟨_, rfl, x, _, dx, _, rfl, s9 _ _ upd_same, T.c_Style.cls, T.n_Style_grow, Nat.lt_of_succ_le (Nat.le_of_ble_eq_true rfl), ?_⟩
      refine ⟨_, _, rfl, ?_⟩
      refine ⟨_, rfl, x, _, dx, _, rfl, upd_same, T.c_Style.cls, T.n_Style_shrink, Nat.lt_of_succ_le (Nat.le_of_ble_eq_true rfl), ?_⟩
      refine ⟨rfl, ?_⟩
      tm_at "rzs"
      intro p10 H10 f10 s10 g10
      refine ⟨p10, _, rfl, sqT g10, rfl, ?_⟩
      refine ⟨_, _, rfl, ?_⟩
      refine ⟨_, rfl, x, _, dx, _, rfl, s10 _ _ upd_same, T.c_Style.cls, T.n_Style_rims, Nat.lt_of_succ_le (Nat.le_of_ble_eq_true rfl), ?_⟩
      refine ⟨_, _, rfl, ?_⟩
      refine ⟨_, rfl, x, _, dx, _, rfl, upd_same, T.c_Style.cls, T.n_Style_stand, Nat.lt_of_succ_le (Nat.le_of_ble_eq_true rfl), ?_⟩
      refine ⟨rfl, ?_⟩
      refine k _ (by tm_at "bt") ?_
      rw [upd_same, styF_put]
end
end My
namespace My
open PySem PySem.Spec PyProof.Rows L2
section
variable {P : Program} {w : World} {K : PySem.W.Frag} {mg : Str → Option Value} {base : Heap}
def sp_checked_name : Sp := fun vs H Q _ => ∃ (l : List Nat), vs = [.str (sO l)] ∧ NameOk l ∧ ∀ H', Same H H' → Q (.str (sO l)) H'
theorem ok_checked_name (T : Tx K mg) : FnOk P w K mg base CX0 2 T.d_checked_name.f T.d_checked_name.fd ["name"] (sp_checked_name) := by
  refine T.d_checked_name.F.ok sc_checked_name (fun vs H Q E h => ?_) (fun cdv A outer s H vs Q E hr h => ?_)
  · obtain ⟨l, rfl, _⟩ := h
    rfl
  · obtain ⟨l, rfl, hl, k⟩ := h
    refine ⟨_, (pss_cons (ps_if (pt_not (pt_val (pe_call (ok_is_name T) (hr.mono (by decide)) (by rfl) T.d_is_name.g T.d_is_name.F.kp T.d_is_name.b .nil pass0 (pa_cons (pv 0) pa_nil))))
      (pss_one ps_never)
      pss_nil)
      (pss_one (ps_ret (pv 0)))), ?_⟩
    tm_at "rzs"
    refine fun H1 s1 => ?_
    tm_at "rzs"
    exact k H1 s1
end
end My
namespace My
open PySem PySem.Spec PyProof.Rows L2
section
variable {P : Program} {w : World} {K : PySem.W.Frag} {mg : Str → Option Value} {base : Heap}
def sp_checked_style : Sp := fun vs H Q _ => vs = [.non] ∧ ∀ v H', Same H H' → Q v H'
theorem ok_checked_style (T : Tx K mg) : FnOk P w K mg base CX0 6 T.d_checked_style.f T.d_checked_style.fd ["style"] (sp_checked_style) := by
  refine T.d_checked_style.F.ok sc_checked_style (fun vs H Q E h => ?_) (fun cdv A outer s H vs Q E hr h => ?_)
  · obtain ⟨rfl, _⟩ := h
    rfl
  · obtain ⟨rfl, k⟩ := h
    refine ⟨_, (pss_cons (ps_if (pt_cmpR op_isN (pv 0) pe_non (nomark _))
      (pss_one (ps_ret (pe_makeK0 T.d_Style_init.mks (ok_Style_init T) (hr.mono (by decide)) (by rfl) T.c_Style.g (Classical.choose_spec (kb_Style_init_1_ T)) pass0 pk_nil)))
      pss_nil)
      (pss_cons (ps_if (pt_not (pt_val (pe_callB (call_isiK (K := K) rfl) (by rfl) T.b_isinstance (by decide +kernel) (pa_cons (pv 0) (pa_cons (pe_glob (v := .ref T.c_Style.C) (by rfl) T.c_Style.g rfl) pa_nil)))))
      (pss_one ps_never)
      pss_nil)
      (pss_one (ps_ret (pv 0))))), ?_⟩
    tm_at "rzs"
    exact mk_style (fs := dfltL T.U_NO_RIMS) (dflt_ok T.t_NO_RIMS) fun x dx H' s _ _ => k _ H' s
end
end My
namespace My
open PySem PySem.Spec PyProof.Rows L2
section
variable {P : Program} {w : World} {K : PySem.W.Frag} {mg : Str → Option Value} {base : Heap}
def sp_checked_boxes (C : Addr) : Sp := fun vs H Q _ => ∃ (a : Addr) (ws : List V), vs = [.ref a] ∧ H a = some (.lst ws) ∧ ws.length ≤ 1000 ∧ (∀ w ∈ ws, InsC C H w) ∧ ∀ p H', Same H H' → H p = none → H' p = some (.tup ws) → Q (.ref p) H'
theorem ok_checked_boxes (T : Tx K mg) : FnOk P w K mg base CX0 1 T.d_checked_boxes.f T.d_checked_boxes.fd ["boxes"] (sp_checked_boxes T.c_Words.C) := by
  refine T.d_checked_boxes.F.ok sc_checked_boxes (fun vs H Q E h => ?_) (fun cdv A outer s H vs Q E hr h => ?_)
  · obtain ⟨a, ws, rfl, _⟩ := h
    rfl
  · obtain ⟨a, ws, rfl, ha, hl, hw, k⟩ := h
    refine ⟨_, (pss_cons (ps_if (PW.pt (pw_or (pt_not (pt_val (pe_callB is_list (by rfl) T.b_isinstance (by decide +kernel) (pa_cons (pv 0) (pa_cons (pe_bltn (v := .ty "list") (by rfl) T.b_list (by decide +kernel) rfl) pa_nil))))) (pw_or1 (pt_not (pt_val (pe_callB (cr_allK (K := K) rfl rfl) (by rfl) T.b_all (by decide +kernel) (pa_cons (pe_lc (own := [("box", 1)]) (g := gName 1) (by rfl) sc_checked_boxes.nd (pi_listK (K := K) rfl (pv 0)) (blkOk_by (own := [("box", 1)]) (N := N_checked_boxes) (sc := defScope s_checked_boxes) (by decide +kernel)) (fun _ _ _ _ _ => (pg_name (i := 1) sc_checked_boxes.nd rfl (Or.inl rfl))) (fun _ _ _ _ _ => pts_nil) (fun _ _ _ _ _ => (pe_callB (call_isiK (K := K) rfl) (by rfl) T.b_isinstance (by decide +kernel) (pa_cons (pv 1) (pa_cons (pe_glob (v := .ref T.c_Box.C) (by rfl) T.c_Box.g rfl) pa_nil))))) pa_nil)))))))
      (pss_one ps_never)
      pss_nil)
      (pss_one (ps_ret (pe_callTy (call_tupLK (K := K) rfl) (by rfl) T.b_tuple (by decide +kernel) (pa_cons (pv 0) pa_nil))))), ?_⟩
    tm_at "rzs"
    refine ⟨⟨_, sqL ha⟩, fun D hD => lcLx (K := K) (xs := ws) (fun _ => .bl true) hD (sqL ha) (by omega) (fun i x H2 Kt Kf hx s2 kk => ?_) (fun H2 s2 g2 => ?_)⟩
    · have hi := (hw x (List.mem_of_getElem? hx)).same s2
      obtain ⟨b, dx, fs, rfl, hb⟩ := hi
      tm_at "rzs"
      refine ⟨_, _, _, _, true, rfl, .own _, .base (.ins hb T.c_Words.cls T.wc T.wg T.wt T.wm), kit_own T.ww T.wb T.bt T.c_Box.cls.hd, ?_⟩
      exact kk _ (Same.refl _)
    rw [bls _ fun _ => true] at g2
    tm_at "rzs"
    refine ⟨D, _, rfl, sqL g2, ?_⟩
    rw [all_true]
    tm_at "rzs"
    refine ⟨a, ws, rfl, sqL (s2 _ _ ha), fun p H3 f3 s3 g3 => ?_⟩
    refine k p H3 (s2.trans s3) ?_ g3
    cases e : H p with
    | none => rfl
    | some o => rw [s2 _ _ e] at f3; cases f3
end
end My
namespace My
open PySem PySem.Spec PyProof.Rows L2
section
variable {P : Program} {w : World} {K : PySem.W.Frag} {mg : Str → Option Value} {base : Heap}
def sp_checked_gap : Sp := fun vs H Q _ => ∃ n : Int, vs = [.int n] ∧ 0 ≤ n ∧ Q (.int n) H
theorem ok_checked_gap (T : Tx K mg) : FnOk P w K mg base CX0 3 T.d_checked_gap.f T.d_checked_gap.fd ["gap"] (sp_checked_gap) := by
  refine T.d_checked_gap.F.ok sc_checked_gap (fun vs H Q E h => ?_) (fun cdv A outer s H vs Q E hr h => ?_)
  · obtain ⟨n, rfl, _⟩ := h
    rfl
  · obtain ⟨n, rfl, hn, k⟩ := h
    refine ⟨_, (pss_cons (ps_if (pt_not (pt_val (pe_call (ok_is_count T) (hr.mono (by decide)) (by rfl) T.d_is_count.g T.d_is_count.F.kp T.d_is_count.b .nil pass0 (pa_cons (pv 0) pa_nil))))
      (pss_one ps_never)
      pss_nil)
      (pss_one (ps_ret (pv 0)))), ?_⟩
    tm_at "rzs"
    refine iteF' (by show (!decide (0 ≤ n)) = false; rw [decide_eq_true hn]; rfl) ?_
    tm_at "rzs"
    exact k
end
end My
namespace My
open PySem PySem.Spec PyProof.Rows L2
section
variable {P : Program} {w : World} {K : PySem.W.Frag} {mg : Str → Option Value} {base : Heap}
def sp_checked_stands : Sp := fun vs H Q _ => vs = [.str (Str.ofString "stretch")] ∧ Q (.str (Str.ofString "stretch")) H
theorem ok_checked_stands (T : Tx K mg) : FnOk P w K mg base CX0 1 T.d_checked_stands.f T.d_checked_stands.fd ["stands"] (sp_checked_stands) := by
  refine T.d_checked_stands.F.ok sc_checked_stands (fun vs H Q E h => ?_) (fun cdv A outer s H vs Q E hr h => ?_)
  · obtain ⟨rfl, _⟩ := h
    rfl
  · obtain ⟨rfl, k⟩ := h
    refine ⟨_, (pss_cons (ps_if (pt_cmpR (op_notInK (K := K) rfl) (pv 0) (pe_glob (v := .ref T.U_STANDS) (by rfl) T.v_STANDS rfl) (by rfl))
      (pss_one ps_never)
      pss_nil)
      (pss_one (ps_ret (pv 0)))), ?_⟩
    tm_at "rzs"
    refine ⟨_, _, rfl, .inr (T.t_STANDS _), rfl, rfl, ?_⟩
    have hin : inV (.str (Str.ofString "stretch")) [.str (Str.ofString "start"), .str (Str.ofString "end"), .str (Str.ofString "middle"), .str (Str.ofString "stretch"), .str (Str.ofString "base")] = true := by decide +kernel
    rw [if_pos rfl, hin]
    tm_at "rzs"
    exact k
end
end My
namespace My
open PySem PySem.Spec PyProof.Rows L2
section
variable {P : Program} {w : World} {K : PySem.W.Frag} {mg : Str → Option Value} {base : Heap}
theorem bx_Words_init (T : Tx K mg) : ∃ ds, Vals (([("style", .non)] : List (Str × V)).map (·.2)) ds ∧ Binds K T.d_Words_init.fd ["self", "name", "text", "style"] ds :=
  T.d_Words_init.bx 3 (by intro z; cases z) rfl (fun D doc pm an cdv ct us ks h1 h2 => match us, ks, h1, h2 with | [_, _, _], [_], _, _ => ⟨_, _, _, _, _, _, rfl, rfl, rfl⟩)
def sp_Words_init (C : Addr) : Sp := fun vs H Q _ => ∃ (x dx : Addr) (l t : List Nat), vs = [.ref x, .str (sO l), .str (sO t), .non] ∧ H x = some (.ins C dx []) ∧ NameOk l ∧ ∀ H', But x H H' → InsC C H' (.ref x) → Q .non H'
theorem ok_Words_init (T : Tx K mg) : FnOk P w K mg base CX0 7 T.d_Words_init.f T.d_Words_init.fd ["self", "name", "text", "style"] (sp_Words_init T.c_Words.C) := by
  refine T.d_Words_init.F.ok sc_Words_init (fun vs H Q E h => ?_) (fun cdv A outer s H vs Q E hr h => ?_)
  · obtain ⟨x, dx, l, t, rfl, _⟩ := h
    rfl
  · obtain ⟨x, dx, l, t, rfl, hx, hl, k⟩ := h
    refine ⟨_, (pss_cons (ps_fld (pv 0) (pe_call (ok_checked_name T) (hr.mono (by decide)) (by rfl) T.d_checked_name.g T.d_checked_name.F.kp T.d_checked_name.b .nil pass0 (pa_cons (pv 1) pa_nil)) rfl)
      (pss_cons (ps_if (pt_not (pt_val (pe_callB is_str (by rfl) T.b_isinstance (by decide +kernel) (pa_cons (pv 2) (pa_cons (pe_bltn (v := .ty "str") (by rfl) T.b_str (by decide +kernel) rfl) pa_nil)))))
      (pss_one ps_never)
      pss_nil)
      (pss_cons (ps_fld (pv 0) (pv 2) rfl)
      (pss_one (ps_fld (pv 0) (pe_call (ok_checked_style T) (hr.mono (by decide)) (by rfl) T.d_checked_style.g T.d_checked_style.F.kp T.d_checked_style.b .nil pass0 (pa_cons (pv 3) pa_nil)) rfl))))), ?_⟩
    tm_at "rzs"
    refine fun H1 s1 => ?_
    tm_at "rzs"
    refine ⟨x, _, dx, _, rfl, s1 _ _ hx, T.c_Words.cls, T.n_Words_name, Nat.lt_of_succ_le (Nat.le_of_ble_eq_true rfl), ?_⟩
    tm_at "rzs"
    refine ⟨x, _, dx, _, rfl, upd_same, T.c_Words.cls, T.n_Words_text, Nat.lt_of_succ_le (Nat.le_of_ble_eq_true rfl), ?_⟩
    tm_at "rzs"
    refine fun v H2 s2 => ?_
    tm_at "rzs"
    refine ⟨x, _, dx, _, rfl, s2 _ _ upd_same, T.c_Words.cls, T.n_Words_style, Nat.lt_of_succ_le (Nat.le_of_ble_eq_true rfl), ?_⟩
    refine k _ (by tm_at "bt") ⟨x, dx, _, rfl, upd_same⟩
end
end My
namespace My
open PySem PySem.Spec PyProof.Rows L2
section
variable {P : Program} {w : World} {K : PySem.W.Frag} {mg : Str → Option Value} {base : Heap}
theorem kb_Grid_init_4_columns_rows (T : Tx K mg) : ∃ mv : List Value, KBn K T.d_Grid_init.fd ["self", "name", "boxes", "spots", "columns", "rows", "gap", "lane", "stands", "style"] 4 ["columns", "rows"] (fun us ws => pick1 0 us ++ pick1 1 us ++ pick1 2 us ++ pick1 3 us ++ pick1 0 ws ++ pick1 1 ws ++ pick1 0 mv ++ pick1 1 mv ++ pick1 2 mv ++ pick1 3 mv) (fun vs zs => pick1 0 vs ++ pick1 1 vs ++ pick1 2 vs ++ pick1 3 vs ++ pick1 0 zs ++ pick1 1 zs ++ pick1 0 (([("gap", .int 0), ("lane", .int 0), ("stands", .str (Str.ofString "stretch")), ("style", .non)] : List (Str × V)).map (·.2)) ++ pick1 1 (([("gap", .int 0), ("lane", .int 0), ("stands", .str (Str.ofString "stretch")), ("style", .non)] : List (Str × V)).map (·.2)) ++ pick1 2 (([("gap", .int 0), ("lane", .int 0), ("stands", .str (Str.ofString "stretch")), ("style", .non)] : List (Str × V)).map (·.2)) ++ pick1 3 (([("gap", .int 0), ("lane", .int 0), ("stands", .str (Str.ofString "stretch")), ("style", .non)] : List (Str × V)).map (·.2))) := by
  exact T.d_Grid_init.FD.kbinds0 4 ["columns", "rows"] [("gap", .int 0), ("lane", .int 0), ("stands", .str (Str.ofString "stretch")), ("style", .non)] (fun us mv ws => pick1 0 us ++ pick1 1 us ++ pick1 2 us ++ pick1 3 us ++ pick1 0 ws ++ pick1 1 ws ++ pick1 0 mv ++ pick1 1 mv ++ pick1 2 mv ++ pick1 3 mv) (by intro z; cases z) (fun q hq => List.Sublist.subset (show List.Sublist _ _ from (.cons₂ _ (.cons₂ _ (.cons₂ _ (.cons₂ _ .slnil))))) hq) (fun r1 rm r2 => ((((((((((vals_pick r1 0).append (vals_pick r1 1)).append (vals_pick r1 2)).append (vals_pick r1 3)).append (vals_pick r2 0)).append (vals_pick r2 1)).append (vals_pick rm 0)).append (vals_pick rm 1)).append (vals_pick rm 2)).append (vals_pick rm 3)))
    (fun D doc pm an cdv ct us mv ws h1 hm h2 => match us, mv, ws, h1, hm, h2 with | [_, _, _, _], [_, _, _, _], [_, _], _, _, _ => ⟨_, _, _, _, _, _, rfl, rfl, ⟨_, _, _, _, _, _, rfl, rfl, ⟨_, _, _, _, _, _, rfl, rfl, ⟨_, _, _, _, _, _, rfl, rfl, rfl⟩⟩⟩⟩)
def sp_Grid_init (K : PySem.W.Frag) (C W N : Addr) : Sp := fun vs H Q E => ∃ (G : Hp) (x dx b a c d : Addr) (l : List Nat) (ws us xs ys : List V) (os : List (Option (List V))) (ts us' : List Tk), vs = [.ref x, .str (sO l), .ref b, .ref a, .ref c, .ref d, .int 0, .int 0, .str (Str.ofString "stretch"), .non] ∧ H x = some (.ins C dx []) ∧ G x = none ∧ Same G H ∧ NameOk l ∧
  G b = some (.lst ws) ∧ ws.length ≤ 1000 ∧ (∀ w ∈ ws, InsC W G w) ∧ G a = some (.lst us) ∧ ThsAt G us os ∧ os.length ≤ 1000 ∧
  G c = some (.lst xs) ∧ TksAt G xs ts ∧ (∀ t ∈ ts, t.ok) ∧ ts ≠ [] ∧ ts.length ≤ 1000 ∧ G d = some (.lst ys) ∧ TksAt G ys us' ∧ (∀ t ∈ us', t.ok) ∧ us' ≠ [] ∧ us'.length ≤ 1000 ∧
  ∀ H', But x H H' → ((decide (os.length = ws.length) && stB ts.length us'.length [] os) = true → (∃ p q fs, H' x = some (.ins C dx fs) ∧ fs.lookup (Str.ofString "columns") = some (V.ref p) ∧ fs.lookup (Str.ofString "spots") = some (V.ref q) ∧ H' p = some (.tup xs) ∧ H' q = some (.tup us)) → Q .non H') ∧ ((decide (os.length = ws.length) && stB ts.length us'.length [] os) = false → E (.ref N) none H')
theorem gsame {G H H' : Hp} {x : Addr} (n : G x = none) (s : Same G H) (b : But x H H') : Same G H' := fun p o e => b _ _ (by rintro rfl; rw [n] at e; cases e) (s _ _ e)
theorem ok_Grid_init (T : Tx K mg) : FnOk P w K mg base (L2N.CX P w) 7 T.d_Grid_init.f T.d_Grid_init.fd ["self", "name", "boxes", "spots", "columns", "rows", "gap", "lane", "stands", "style"] (sp_Grid_init K T.c_Grid.C T.c_Words.C T.e_NoSpot.C) := by
  refine T.d_Grid_init.F.okN sc_Grid_init (fun vs H Q E h => ?_) (fun cdv A outer s H vs Q E hr h => ?_)
  · obtain ⟨G, x, dx, b, a, c, d, l, ws, us, xs, ys, os, ts, us', rfl, _⟩ := h
    rfl
  · obtain ⟨G, x, dx, b, a, c, d, l, ws, us, xs, ys, os, ts, us', rfl, hx, gx, sG, hl, hb, hbn, hw, ha, ho, hon, hc, hts, okt, nt, ltn, hd, hus, oku, nu, lun, k⟩ := h
    refine ⟨_, (pss_cons (ps_fld (pv 0) (pe_call (ok_checked_name T) (hr.mono (by decide)) (by rfl) T.d_checked_name.g T.d_checked_name.F.kp T.d_checked_name.b .nil pass0 (pa_cons (pv 1) pa_nil)) rfl)
      (pss_cons (ps_fld (pv 0) (pe_call (ok_checked_boxes T) (hr.mono (by decide)) (by rfl) T.d_checked_boxes.g T.d_checked_boxes.F.kp T.d_checked_boxes.b .nil pass0 (pa_cons (pv 2) pa_nil)) rfl)
      (pss_cons (ps_if (PW.pt (pw_or (pt_not (pt_val (pe_call (ok_are_tracks T) (hr.mono (by decide)) (by rfl) T.d_are_tracks.g T.d_are_tracks.F.kp T.d_are_tracks.b .nil pass0 (pa_cons (pv 4) pa_nil)))) (pw_or1 (pt_not (pt_val (pe_call (ok_are_tracks T) (hr.mono (by decide)) (by rfl) T.d_are_tracks.g T.d_are_tracks.F.kp T.d_are_tracks.b .nil pass0 (pa_cons (pv 5) pa_nil)))))))
      (pss_one ps_never)
      pss_nil)
      (pss_cons (ps_if (pt_not (pt_val (pe_call (ok_are_spots T) (hr.mono (by decide)) (by rfl) T.d_are_spots.g T.d_are_spots.F.kp T.d_are_spots.b .nil pass0 (pa_cons (pv 3) (pa_cons (pe_callB (call_lenK (K := K) rfl) (by rfl) T.b_len (by decide +kernel) (pa_cons (pv 2) pa_nil)) (pa_cons (pe_callB (call_lenK (K := K) rfl) (by rfl) T.b_len (by decide +kernel) (pa_cons (pv 4) pa_nil)) (pa_cons (pe_callB (call_lenK (K := K) rfl) (by rfl) T.b_len (by decide +kernel) (pa_cons (pv 5) pa_nil)) pa_nil)))))))
      (pss_one (L2N.ps_raise rfl (L2N.takes_of rfl rfl rfl rfl) (L2N.pmk_own PySem.F.excBase_ValueError T.e_NoSpot.x T.e_NoSpot.g T.e_NoSpot.k (raises_own T.e_NoSpot.b T.e_NoSpot.t) rfl)))
      pss_nil)
      (pss_cons (ps_asg (pe_tupA (pa_cons (pe_callTy (call_tupLK (K := K) rfl) (by rfl) T.b_tuple (by decide +kernel) (pa_cons (pv 4) pa_nil)) (pa_cons (pe_callTy (call_tupLK (K := K) rfl) (by rfl) T.b_tuple (by decide +kernel) (pa_cons (pv 5) pa_nil)) pa_nil))) (pg_tup (by rfl) (pgs_cons (pg_fldK (K := K) rfl (pv 0)) (pgs_cons (pg_fldK (K := K) rfl (pv 0)) pgs_nil))))
      (pss_cons (ps_fld (pv 0) (pe_callTy (call_tupLK (K := K) rfl) (by rfl) T.b_tuple (by decide +kernel) (pa_cons (pv 3) pa_nil)) rfl)
      (pss_cons (ps_fld (pv 0) (pe_call (ok_checked_gap T) (hr.mono (by decide)) (by rfl) T.d_checked_gap.g T.d_checked_gap.F.kp T.d_checked_gap.b .nil pass0 (pa_cons (pv 6) pa_nil)) rfl)
      (pss_cons (ps_fld (pv 0) (pe_call (ok_checked_gap T) (hr.mono (by decide)) (by rfl) T.d_checked_gap.g T.d_checked_gap.F.kp T.d_checked_gap.b .nil pass0 (pa_cons (pv 7) pa_nil)) rfl)
      (pss_cons (ps_fld (pv 0) (pe_call (ok_checked_stands T) (hr.mono (by decide)) (by rfl) T.d_checked_stands.g T.d_checked_stands.F.kp T.d_checked_stands.b .nil pass0 (pa_cons (pv 8) pa_nil)) rfl)
      (pss_one (ps_fld (pv 0) (pe_call (ok_checked_style T) (hr.mono (by decide)) (by rfl) T.d_checked_style.g T.d_checked_style.F.kp T.d_checked_style.b .nil pass0 (pa_cons (pv 9) pa_nil)) rfl))))))))))), ?_⟩
    tm_at "rzs"
    refine fun H1 s1 => ?_
    tm_at "rzs"
    refine ⟨x, _, dx, _, rfl, s1 _ _ hx, T.c_Grid.cls, T.n_Grid_name, Nat.lt_of_succ_le (Nat.le_of_ble_eq_true rfl), ?_⟩
    refine upd_gen fun H2 b2 g2 => ?_
    have B2 : But x H H2 := (Same.but s1).trans b2
    have S2 := gsame gx sG B2
    tm_at "rzs"
    refine ⟨b, ws, rfl, S2 _ _ hb, hbn, fun w m => (hw w m).same S2, fun p3 H3 s3 f3 g3 => ?_⟩
    tm_at "rzs"
    refine ⟨x, _, dx, _, rfl, s3 _ _ g2, T.c_Grid.cls, T.n_Grid_boxes, Nat.lt_of_succ_le (Nat.le_of_ble_eq_true rfl), ?_⟩
    refine upd_gen fun H4 b4 g4 => ?_
    have B4 : But x H H4 := B2.trans ((Same.but s3).trans b4)
    have S4 := gsame gx sG B4
    tm_at "rzs"
    refine ⟨c, xs, ts, rfl, S4 _ _ hc, hts.mono S4, okt, nt, ltn, fun H5 s5 => ?_⟩
    have S5 := S4.trans s5
    tm_at "rzs"
    refine ⟨d, ys, us', rfl, S5 _ _ hd, hus.mono S5, oku, nu, lun, fun H6 s6 => ?_⟩
    have S6 := S5.trans s6
    have B6 : But x H H6 := B4.trans (Same.but (s5.trans s6))
    have hb6 := S6 _ _ hb
    have hc6 := S6 _ _ hc
    have hd6 := S6 _ _ hd
    tm_at "rzs"
    refine ⟨a, us, os, ws.length, (xs.length : Int), (ys.length : Int), rfl, S6 _ _ ha, ho.same S6, hon, fun H7 s7 => ?_⟩
    have S7 := S6.trans s7
    have B7 : But x H H7 := B6.trans (Same.but s7)
    have k7 := k H7 B7
    rw [← hts.1, ← hus.1] at k7
    rw [← hts.1, ← hus.1] at k
    tm_at "rzs"
    cases e : (decide (os.length = ws.length) && stB (xs.length : Int) (ys.length : Int) [] os) with
    | false =>
      refine iteT' rfl ?_
      tm_at "rzs"
      exact k7.2 e
    | true =>
      have k := fun H' b => (k H' b).1 e
      refine iteF' rfl ?_
      tm_at "rzs"
      have hx7 := s7 _ _ (s6 _ _ (s5 _ _ g4))
      refine ⟨c, xs, rfl, sqL (S7 _ _ hc), fun p8 H8 f8 s8 g8 => ?_⟩
      tm_at "rzs"
      refine ⟨d, ys, rfl, sqL (s8 _ _ (S7 _ _ hd)), fun p9 H9 f9 s9 g9 => ?_⟩
      tm_at "rzs"
      intro p10 H10 f10 s10 g10
      have s710 := s8.trans (s9.trans s10)
      have h10 := s710 _ _ hx7
      refine ⟨p10, _, rfl, sqT g10, rfl, ?_⟩
      refine ⟨_, _, rfl, ?_⟩
      refine ⟨_, rfl, x, _, dx, _, rfl, h10, T.c_Grid.cls, T.n_Grid_columns, Nat.lt_of_succ_le (Nat.le_of_ble_eq_true rfl), ?_⟩
      with_reducible refine upd_gen (R := fun Hq => gCons (gFld K (tVar 0) "rows") gNil _ _ Hq _) fun H11 b11 g11 => ?_
      refine ⟨_, _, rfl, ?_⟩
      refine ⟨_, rfl, x, _, dx, _, rfl, g11, T.c_Grid.cls, T.n_Grid_rows, Nat.lt_of_succ_le (Nat.le_of_ble_eq_true rfl), ?_⟩
      with_reducible refine upd_gen (R := fun Hq => gNil _ _ Hq _) fun H12 b12 g12 => ?_
      refine ⟨rfl, ?_⟩
      have B12 : But x H10 H12 := b11.trans b12
      have B12' : But x H H12 := B7.trans ((Same.but s710).trans B12)
      have S12 := gsame gx sG B12'
      have n8 : p8 ≠ x := by rintro rfl; rw [hx7] at f8; cases f8
      have g8' : H12 p8 = some (.tup xs) := B12.app n8 (s10 _ _ (s9 _ _ g8))
      tm_at "rzs"
      refine ⟨a, us, rfl, sqL (S12 _ _ ha), fun p13 H13 f13 s13 g13 => ?_⟩
      have n13 : p13 ≠ x := by rintro rfl; rw [g12] at f13; cases f13
      tm_at "rzs"
      refine ⟨x, _, dx, _, rfl, s13 _ _ g12, T.c_Grid.cls, T.n_Grid_spots, Nat.lt_of_succ_le (Nat.le_of_ble_eq_true rfl), ?_⟩
      refine upd_gen fun H14 b14 g14 => ?_
      tm_at "rzs"
      refine ⟨x, _, dx, _, rfl, g14, T.c_Grid.cls, T.n_Grid_gap, Nat.lt_of_succ_le (Nat.le_of_ble_eq_true rfl), ?_⟩
      refine upd_gen fun H15 b15 g15 => ?_
      tm_at "rzs"
      refine ⟨x, _, dx, _, rfl, g15, T.c_Grid.cls, T.n_Grid_lane, Nat.lt_of_succ_le (Nat.le_of_ble_eq_true rfl), ?_⟩
      refine upd_gen fun H16 b16 g16 => ?_
      tm_at "rzs"
      refine ⟨x, _, dx, _, rfl, g16, T.c_Grid.cls, T.n_Grid_stands, Nat.lt_of_succ_le (Nat.le_of_ble_eq_true rfl), ?_⟩
      refine upd_gen fun H17 b17 g17 => ?_
      tm_at "rzs"
      refine fun v H18 s18 => ?_
      tm_at "rzs"
      refine ⟨x, _, dx, _, rfl, s18 _ _ g17, T.c_Grid.cls, T.n_Grid_style, Nat.lt_of_succ_le (Nat.le_of_ble_eq_true rfl), ?_⟩
      refine upd_gen fun H19 b19 g19 => ?_
      have B19 : But x H13 H19 := b14.trans (b15.trans (b16.trans (b17.trans ((Same.but s18).trans b19))))
      refine k _ (B12'.trans ((Same.but s13).trans B19)) ⟨p8, p13, _, g19, ?_, ?_, B19.app n8 (s13 _ _ g8'), B19.app n13 g13⟩
      · rfl
      · rfl
end
end My
namespace My
open PySem PySem.Spec PyProof.Rows L2
section
variable {P : Program} {w : World} {K : PySem.W.Frag} {mg : Str → Option Value} {base : Heap}
def sp_w_cell_at (K : PySem.W.Frag) : Sp := fun vs H Q _ => ∃ (a : Addr) (ns : List Int) (k : Nat), vs = [.ref a, .int (k : Int)] ∧ SqL K H a (ns.map V.int) ∧ ns.length ≤ 63 ∧ ∀ z : Int, Q (.int z) H
theorem ok_w_cell_at (T : Tx K mg) : FnOk P w K mg base CX0 1 T.d_w_cell_at.f T.d_w_cell_at.fd ["_law_script", "_law_k"] (sp_w_cell_at K) := by
  refine T.d_w_cell_at.F.ok sc_w_cell_at (fun vs H Q E h => ?_) (fun cdv A outer s H vs Q E hr h => ?_)
  · obtain ⟨x, t, j, rfl, _⟩ := h
    rfl
  · obtain ⟨a, ns, j, rfl, hS, hl, k⟩ := h
    refine ⟨_, (pss_cons (ps_if (pt_cmpR op_lt (pv 1) (pe_callB (call_lenK (K := K) rfl) (by rfl) T.b_len (by decide +kernel) (pa_cons (pv 0) pa_nil)) (nomark _))
      (pss_one (ps_ret (pe_ix (ix_seqK (K := K) rfl) (pv 0) (pv 1) (fun _ _ => rfl))))
      pss_nil)
      (pss_one (ps_ret pe_int))), ?_⟩
    tm_at "rds"
    by_cases e : j < ns.length
    · refine iteT' (decide_eq_true (by rw [List.length_map]; omega)) ?_
      tm_at "rds"
      refine .inl ⟨_, _, _, _, rfl, rfl, hS, atI_nat (v := .int ns[j]) (by rw [List.getElem?_map, List.getElem?_eq_getElem e]; rfl), ?_⟩
      exact k _
    · refine iteF' (decide_eq_false (by rw [List.length_map]; omega)) ?_
      tm_at "rzs"
      exact k _
end
end My
namespace My
open PySem PySem.Spec PyProof.Rows L2
section
variable {P : Program} {w : World} {K : PySem.W.Frag} {mg : Str → Option Value} {base : Heap}
def sp_w_mixed : Sp := fun vs H Q _ => ∃ (c k : Int), vs = [.int c, .int k] ∧ ∀ n : Int, 0 ≤ n → Q (.int n) H
theorem ok_w_mixed (T : Tx K mg) : FnOk P w K mg base CX0 1 T.d_w_mixed.f T.d_w_mixed.fd ["_law_cell", "_law_k"] (sp_w_mixed) := by
  refine T.d_w_mixed.F.ok sc_w_mixed (fun vs H Q E h => ?_) (fun cdv A outer s H vs Q E hr h => ?_)
  · obtain ⟨x, t, rfl, _⟩ := h
    rfl
  · obtain ⟨c, j, rfl, k⟩ := h
    refine ⟨_, (pss_cons (ps_set (i := 2) sc_w_mixed.nd rfl (Or.inl rfl) (pe_op op_add (pe_op op_add (pe_op op_add (pe_op op_mod (pv 0) pe_int) (pe_op op_mul (pe_op op_fdivW (pv 0) pe_int) pe_int)) (pe_op op_mul pe_int (pv 1))) pe_int))
      (pss_cons (ps_set (i := 2) sc_w_mixed.nd rfl (Or.inl rfl) (pe_op op_mod (pe_op op_mul (pv 2) pe_int) pe_int))
      (pss_cons (ps_set (i := 2) sc_w_mixed.nd rfl (Or.inl rfl) (pe_op op_mod (pe_op op_mul (pv 2) (pe_op op_add (pe_op op_add (pe_op op_fdivW (pv 2) pe_int) pe_int) (pv 1))) pe_int))
      (pss_one (ps_ret (pe_op op_mod (pe_op op_mul (pv 2) (pe_op op_add (pe_op op_fdivW (pv 2) pe_int) pe_int)) pe_int)))))), ?_⟩
    tm_at "rds"
    refine k _ ?_
    exact Int.emod_nonneg _ (by decide)
end
end My
namespace My
open PySem PySem.Spec PyProof.Rows L2
section
variable {P : Program} {w : World} {K : PySem.W.Frag} {mg : Str → Option Value} {base : Heap}
def sp_w_source : Sp := fun vs H Q _ => ∃ (c : Int), vs = [.int c] ∧ New H (src (c, c, 0)) Q
theorem ok_w_source (T : Tx K mg) : FnOk P w K mg base CX0 1 T.d_w_source.f T.d_w_source.fd ["_law_cell"] (sp_w_source) := by
  refine T.d_w_source.F.ok sc_w_source (fun vs H Q E h => ?_) (fun cdv A outer s H vs Q E hr h => ?_)
  · obtain ⟨x, rfl, _⟩ := h
    rfl
  · obtain ⟨c, rfl, k⟩ := h
    refine ⟨_, (pss_one (ps_ret (pe_lstA (pa_cons (pv 0) (pa_cons (pv 0) (pa_cons pe_int pa_nil)))))), ?_⟩
    refine ⟨_, rfl, _, rfl, (by show 3 ≤ sizeLine; decide), k⟩
end
end My
namespace My
open PySem PySem.Spec PyProof.Rows L2
section
variable {P : Program} {w : World} {K : PySem.W.Frag} {mg : Str → Option Value} {base : Heap}
def sp_w_next : Sp := fun vs H Q _ => ∃ (a : Addr) (m : Int), vs = [.ref a, .int m] ∧ Src H a ∧ 0 < m ∧ m < 2 ^ 64 ∧
  ∀ (n : Int) (H' : Hp), Dr a H H' → 0 ≤ n → n < m → Q (.int n) H'
theorem ok_w_next (T : Tx K mg) : FnOk P w K mg base CX0 2 T.d_w_next.f T.d_w_next.fd ["_law_source_here", "_law_many"] (sp_w_next) := by
  refine T.d_w_next.F.ok sc_w_next (fun vs H Q E h => ?_) (fun cdv A outer s H vs Q E hr h => ?_)
  · obtain ⟨a, m, rfl, _⟩ := h
    rfl
  · obtain ⟨a, m, rfl, ⟨⟨c0, c1, c2⟩, hs⟩, m0, m1, k⟩ := h
    have hL : SqL K H a [.int c0, .int c1, .int c2] := sqL hs
    refine ⟨_, (pss_cons (ps_if (pt_cmpR op_ge (pe_ix (ix_seqK (K := K) rfl) (pv 0) pe_int (fun _ _ => rfl)) (pe_op op_pow pe_int pe_int) (nomark _))
      (pss_cons (ps_set (i := 2) sc_w_next.nd rfl (Or.inl rfl) (pe_op op_mod (pe_ix (ix_seqK (K := K) rfl) (pv 0) pe_int (fun _ _ => rfl)) (pv 1)))
      (pss_cons (ps_asg (pe_op op_fdivW (pe_ix (ix_seqK (K := K) rfl) (pv 0) pe_int (fun _ _ => rfl)) (pv 1)) (pg_sub (pv 0) pe_int set_listA))
      (pss_one (ps_ret (pv 2)))))
      pss_nil)
      (pss_cons (ps_asg (pe_op op_add (pe_ix (ix_seqK (K := K) rfl) (pv 0) pe_int (fun _ _ => rfl)) pe_int) (pg_sub (pv 0) pe_int set_listA))
      (pss_one (ps_ret (pe_op op_mod (pe_call (ok_w_mixed T) (hr.mono (by decide)) (by rfl) T.d_w_mixed.g T.d_w_mixed.F.kp T.d_w_mixed.b .nil pass0 (pa_cons (pe_ix (ix_seqK (K := K) rfl) (pv 0) pe_int (fun _ _ => rfl)) (pa_cons (pe_ix (ix_seqK (K := K) rfl) (pv 0) pe_int (fun _ _ => rfl)) pa_nil))) (pv 1)))))), ?_⟩
    refine ⟨_, rfl, .inl ⟨_, _, _, _, rfl, rfl, hL, atI_nat (j := 0) rfl, _, _, rfl, rfl, ⟨by decide, by decide, by decide⟩, _, _, rfl, rfl, _, rfl, ite2 (fun e => ?_) (fun e => ?_)⟩⟩
    · refine ⟨_, rfl, .inl ⟨_, _, _, _, rfl, rfl, hL, atI_nat (j := 0) rfl, ?_⟩⟩
      tm_at "rds"
      refine .inl ⟨_, _, _, _, rfl, rfl, hL, atI_nat (j := 0) rfl, ?_⟩
      tm_at "rds"
      refine ⟨_, _, _, _, rfl, rfl, hs, rfl, fun H1 B1 g1 => ?_⟩
      tm_at "rds"
      refine k _ _ ⟨⟨(c0 / m, c1, c2), g1⟩, B1⟩ ?_ ?_
      · exact Int.emod_nonneg _ (by omega)
      · exact Int.emod_lt_of_pos _ m0
    · refine ⟨_, rfl, .inl ⟨_, _, _, _, rfl, rfl, hL, atI_nat (j := 2) rfl, ?_⟩⟩
      tm_at "rds"
      refine ⟨_, _, _, _, rfl, rfl, hs, rfl, fun H1 B1 g1 => ?_⟩
      refine ⟨_, rfl, .inl ⟨_, _, _, _, rfl, rfl, sqL g1, atI_nat (j := 1) rfl, ?_⟩⟩
      refine ⟨_, rfl, .inl ⟨_, _, _, _, rfl, rfl, sqL g1, atI_nat (j := 2) rfl, ?_⟩⟩
      refine ⟨_, _, rfl, fun n n0 => ?_⟩
      tm_at "rds"
      refine k _ _ ⟨⟨(c0, c1, c2 + 1), g1⟩, B1⟩ ?_ ?_
      · exact Int.emod_nonneg _ (by omega)
      · exact Int.emod_lt_of_pos _ m0
end
end My
namespace My
open PySem PySem.Spec PyProof.Rows L2
section
variable {P : Program} {w : World} {K : PySem.W.Frag} {mg : Str → Option Value} {base : Heap}
def sp_w_free : Sp := fun vs H Q _ => ∃ (s g : Addr) (kvs : List (List Key × V)) (a l : Int), vs = [.ref s, .ref g, .int a, .int l] ∧ Src H s ∧ H g = some (.dT kvs) ∧ kvs.length ≤ 1000 ∧ 1 ≤ a ∧ a ≤ 10 ∧ 1 ≤ l ∧ l ≤ 10 ∧
  ∀ (kvs' : List (List Key × V)) H', Dg s g H H' → H' g = some (.dT kvs') → kvs'.length ≤ kvs.length + 3 → Q .non H' ∧ ∀ p x y m, H p = none → H' p = some (.tup [.int x, .int y, .int m, .int 1]) → -100 ≤ x ∧ x ≤ 100 → 1 ≤ m → m ≤ 3 → Q (.ref p) H'
theorem ok_w_free (T : Tx K mg) : FnOk P w K mg base CX0 3 T.d_w_free.f T.d_w_free.fd ["_law_source_here", "_law_gone", "_law_across", "_law_low"] (sp_w_free) := by
  refine T.d_w_free.F.ok sc_w_free (fun vs H Q E h => ?_) (fun cdv A outer s H vs Q E hr h => ?_)
  · obtain ⟨s, g, kvs, a, l, rfl, _⟩ := h
    rfl
  · obtain ⟨s, g, kvs, a, l, rfl, hs, hg, kn, a0, a1, l0, l1, k⟩ := h
    refine ⟨_, (pss_cons (ps_set (i := 4) sc_w_free.nd rfl (Or.inl rfl) (pe_lstA pa_nil))
      (pss_cons (ps_for PassesOwn.never (by rfl) (pi_range1 (by rfl) T.b_range (pa_cons (pv 2) pa_nil)) (pg_name (i := 5) sc_w_free.nd rfl (Or.inl rfl))
      (pss_one (ps_for PassesOwn.never (by rfl) (pi_range1 (by rfl) T.b_range (pa_cons (pv 3) pa_nil)) (pg_name (i := 6) sc_w_free.nd rfl (Or.inl rfl))
      (pss_one (ps_if (pt_cmp (pc_dnotin (hu_of hr) (pe_tupA (pa_cons (pv 5) (pa_cons (pv 6) pa_nil))) (pv 1)))
      (pss_one (ps_expr (pe_bm PySem.F.plainAttrs_list PySem.F.slot_list_append PySem.F.type_list_append mt_appendA (pv 4) (pa_cons (pe_tupA (pa_cons (pv 5) (pa_cons (pv 6) pa_nil))) pa_nil))))
      pss_nil)))))
      (pss_cons (ps_if (pt_cmpR (op_eqDK (K := K) hr.units rfl) (pv 4) (pe_lstA pa_nil) (nomark _))
      (pss_one (ps_ret pe_non))
      pss_nil)
      (pss_cons (ps_asg (pe_ix (ix_listK (K := K) rfl) (pv 4) (pe_call (ok_w_next T) (hr.mono (by decide)) (by rfl) T.d_w_next.g T.d_w_next.F.kp T.d_w_next.b .nil pass0 (pa_cons (pv 0) (pa_cons (pe_callB (call_lenK (K := K) rfl) (by rfl) T.b_len (by decide +kernel) (pa_cons (pv 4) pa_nil)) pa_nil))) (fun _ _ => rfl)) (pg_tup (by rfl) (pgs_cons (pg_name (i := 5) sc_w_free.nd rfl (Or.inl rfl)) (pgs_cons (pg_name (i := 6) sc_w_free.nd rfl (Or.inl rfl)) pgs_nil))))
      (pss_cons (ps_set (i := 7) sc_w_free.nd rfl (Or.inl rfl) pe_int)
      (pss_cons (ps_while PassesOwn.never (PW.pt (pw_and (pt_cmpR op_lt (pe_op op_add (pv 5) (pv 7)) (pv 2) (nomark _)) (pw_and (pt_cmpR op_lt (pv 7) pe_int (nomark _)) (pw_and (pt_cmp (pc_dnotin (hu_of hr) (pe_tupA (pa_cons (pe_op op_add (pv 5) (pv 7)) (pa_cons (pv 6) pa_nil))) (pv 1))) (pw_and1 (pt_cmpR op_eq (pe_call (ok_w_next T) (hr.mono (by decide)) (by rfl) T.d_w_next.g T.d_w_next.F.kp T.d_w_next.b .nil pass0 (pa_cons (pv 0) (pa_cons pe_int pa_nil))) pe_int (nomark _)))))))
      (pss_one (ps_set (i := 7) sc_w_free.nd rfl (Or.inl rfl) (pe_op op_add (pv 7) pe_int))))
      (pss_cons (ps_for PassesOwn.never (by rfl) (pi_range1 (by rfl) T.b_range (pa_cons (pv 7) pa_nil)) (pg_name (i := 8) sc_w_free.nd rfl (Or.inl rfl))
      (pss_one (ps_dput (hu_of hr) (pv 1) (pe_tupA (pa_cons (pe_op op_add (pv 5) (pv 8)) (pa_cons (pv 6) pa_nil))) pe_bl rfl)))
      (pss_one (ps_ret (pe_tupA (pa_cons (pv 5) (pa_cons (pv 6) (pa_cons (pv 7) (pa_cons pe_int pa_nil)))))))))))))), ?_⟩
    tm_at "rzs"
    intro p H1 f1 s1 g1
    have np : p ≠ s := hs.ne f1
    have ng : p ≠ g := (ne_of_none hg f1).symm
    have hs1 := hs.same s1
    tm_at "rzs"
    refine for_range (lo := 0) (n := a.toNat) (fun i σ H' => ∃ (v5 v6 v7 v8 : Option V) (us : List V) (cs : List (Int × Int)), σ = [some (.ref s), some (.ref g), some (.int a), some (.int l), some (.ref p), v5, v6, v7, v8] ∧ Same H H' ∧ H' p = some (.lst us) ∧ C2s H' us cs ∧ us.length ≤ 10 * i)
      ⟨_, _, _, _, [], [], rfl, s1, g1, .nil, by simp⟩ ?_ ?_
    · rintro i σ H3 hi ⟨v5, v6, v7, v8, us, cs, rfl, d3, gp, hu, ly⟩
      dsimp only [gName]
      tm_at "rzs"
      refine for_range (lo := 0) (n := l.toNat) (fun j σ H' => ∃ (v6 v7 v8 : Option V) (us : List V) (cs : List (Int × Int)), σ = [some (.ref s), some (.ref g), some (.int a), some (.int l), some (.ref p), some (.int (0 + (i : Int))), v6, v7, v8] ∧ Same H H' ∧ H' p = some (.lst us) ∧ C2s H' us cs ∧ us.length ≤ 10 * i + j)
        ⟨_, _, _, us, cs, rfl, d3, gp, hu, by omega⟩ ?_ ?_
      · rintro j σ H4 hj ⟨v6, v7, v8, us, cs, rfl, d4, gp4, hu4, ly4⟩
        dsimp only [gName]
        tm_at "rzs"
        intro q H5 f5 s5 g5
        have hg5 := s5 _ _ (d4 _ _ hg)
        have gp5 := s5 _ _ gp4
        tm_at "rzs"
        refine ⟨g, _, rfl, DGet.t (k := [.inl (0 + (i : Int)), .inl (0 + (j : Int))]) hg5 g5, ?_⟩
        tm_at "rzs"
        refine ite2 (fun e => ?_) (fun e => ?_)
        · tm_at "rzs"
          intro r H6 f6 s6 g6
          refine ⟨_, _, _, rfl, rfl, s6 _ _ gp5, small1000 (by omega), fun H7 b7 g7 => ?_⟩
          have hu6 := (hu4.same (s5.trans s6)).snoc g6 (by omega)
          exact ⟨_, _, _, us ++ [.ref r], cs ++ [_], rfl, Same.mut' (d4.trans (s5.trans s6)) b7 f1, g7, hu6.but b7 (s6 _ _ gp5), by rw [List.length_append, List.length_singleton]; omega⟩
        · tm_at "rzs"
          exact ⟨_, _, _, us, cs, rfl, d4.trans s5, gp5, hu4.same s5, by omega⟩
      · rintro σ H4 ⟨v6, v7, v8, us, cs, rfl, d4, gp4, hu4, ly4⟩
        exact ⟨_, _, _, _, us, cs, rfl, d4, gp4, hu4, by omega⟩
    · rintro σ H3 ⟨v5, v6, v7, v8, us, cs, rfl, d3, gp, hu, ly⟩
      tm_at "rzs"
      intro q H4 f4 s4 g4
      have gp4 := s4 _ _ gp
      have hu4 := hu.same s4
      have d4 := d3.trans s4
      refine ⟨_, _, .lst (sqL gp4) hu4.dp, .lst (xs := []) (sqL g4) .nil, C2s.shaped cs, by decide +kernel, ?_⟩
      tm_at "rzs"
      cases cs with
      | nil =>
        refine iteT' (by simp [PyData.eqv, PyData.eqvAll]) ?_
        tm_at "rzs"
        exact (k kvs H4 ((Dg.refl hs).same d4) (d4 _ _ hg) (by omega)).1
      | cons c0 cs =>
        refine iteF' PyData_cons_nil ?_
        have ly0 := hu4.len
        rw [List.length_cons] at ly0
        refine ⟨_, rfl, ?_⟩
        refine ⟨_, rfl, ?_⟩
        refine ⟨_, rfl, ?_⟩
        refine ⟨_, _, rfl, .inl ⟨_, sqL gp4, rfl⟩, ?_⟩
        refine ⟨_, _, rfl, hs.same d4, by omega, by omega, fun n5 H5 d5 l5 u5 => ?_⟩
        have gp5 := d5.app np gp4
        have hu5 := hu4.gen (H' := H5) fun p xs e => d5.app (by rintro rfl; obtain ⟨_, z⟩ := hs.same d4; rw [z] at e; cases e) e
        obtain ⟨y, hy, my⟩ := at_some (xs := us) l5 u5
        obtain ⟨jy, hjy⟩ := List.getElem?_of_mem my
        obtain ⟨q, X, Y, rfl, gq, bX⟩ := hu5.at hjy
        refine ⟨_, _, _, _, rfl, rfl, sqL gp5, hy, ?_⟩
        have d05 : Dr s H H5 := (Dr.of hs d4).trans d5
        tm_at "rzs"
        refine ⟨q, _, rfl, sqT gq, rfl, ?_⟩
        tm_at "rzs"
        have ngs : g ≠ s := by rintro rfl; obtain ⟨_, z⟩ := hs; rw [hg] at z; cases z
        have hg5 := d05.app ngs hg
        show tSeq _ _ _ [some (.ref s), some (.ref g), some (.int a), some (.int l), some (.ref p), some (.int X), some (.int Y), v7, v8] H5
        tm_at "rzs"
        show tSeq (tWhile _ _) _ _ [some (.ref s), some (.ref g), some (.int a), some (.int l), some (.ref p), some (.int X), some (.int Y), some (.int 1), v8] H5
        refine seq_key (M := fun σ H' => ∃ (m : Int) (v8 : Option V), σ = [some (.ref s), some (.ref g), some (.int a), some (.int l), some (.ref p), some (.int X), some (.int Y), some (.int m), v8] ∧ Dr s H H' ∧ 1 ≤ m ∧ m ≤ 3) ?_ (fun NN hNN => ?_)
        rotate_left
        · refine ⟨fun w σ H' => ∃ (m : Int), σ = [some (.ref s), some (.ref g), some (.int a), some (.int l), some (.ref p), some (.int X), some (.int Y), some (.int m), v8] ∧ Dr s H H' ∧ 1 ≤ m ∧ (w : Int) = 3 - m, ⟨2, 1, rfl, d05, by omega, by omega⟩, ?_⟩
          rintro w σ H6 ⟨m, rfl, d6, m0, ew⟩
          have hg6 := d6.app ngs hg
          tm_at "rzs"
          refine ite2 (fun e1 => ?_) (fun e1 => ?_)
          rotate_left
          · tm_at "rzs"
            exact hNN _ _ ⟨m, v8, rfl, d6, m0, by omega⟩
          tm_at "rzs"
          refine ite2 (fun e2 => ?_) (fun e2 => ?_)
          rotate_left
          · tm_at "rzs"
            exact hNN _ _ ⟨m, v8, rfl, d6, m0, by omega⟩
          have e2 := of_decide_eq_true e2
          tm_at "rzs"
          intro q7 H7 f7 s7 g7
          tm_at "rzs"
          refine ⟨g, _, rfl, DGet.t (k := [.inl (X + m), .inl Y]) (s7 _ _ hg6) g7, ?_⟩
          have d7 := d6.same s7
          have hs7 := d7.s
          tm_at "rzs"
          refine ite2 (fun e3 => ?_) (fun e3 => ?_)
          rotate_left
          · tm_at "rzs"
            exact hNN _ _ ⟨m, v8, rfl, d7, m0, by omega⟩
          tm_at "rzs"
          intro n8 H8 d8 l8 u8
          have d08 := d7.trans d8
          tm_at "rzs"
          by_cases e4 : n8 = 1
          · refine iteT' (by rw [int_inj_dec]; exact decide_eq_true e4) ?_
            refine ⟨fun σ' H' => σ' = [some (.ref s), some (.ref g), some (.int a), some (.int l), some (.ref p), some (.int X), some (.int Y), some (.int (m + 1)), v8] ∧ Dr s H H', fun σ' H' ⟨e, dd⟩ => ⟨w - 1, by omega, m + 1, e, dd, by omega, by omega⟩, ?_⟩
            tm_at "rzs"
            exact d08
          · refine iteF' (by rw [int_inj_dec]; exact decide_eq_false e4) ?_
            exact hNN _ _ ⟨m, v8, rfl, d08, m0, by omega⟩
        rintro σ H6 ⟨m, v8, rfl, d6, m0, m1⟩
        have hg6 := d6.app ngs hg
        tm_at "rzs"
        refine for_range (lo := 0) (n := m.toNat) (fun i σ H' => ∃ (v8 : Option V) (kv' : List (List Key × V)), σ = [some (.ref s), some (.ref g), some (.int a), some (.int l), some (.ref p), some (.int X), some (.int Y), some (.int m), v8] ∧ Dg s g H H' ∧ H' g = some (.dT kv') ∧ kv'.length ≤ kvs.length + i)
          ⟨_, kvs, rfl, (Dg.refl hs).dr d6, hg6, by omega⟩ ?_ ?_
        · rintro i σ H7 hi ⟨v8, kv', rfl, d7, g7, l7⟩
          dsimp only [gName]
          tm_at "rzs"
          intro q8 H8 f8 s8 g8
          refine ⟨g, _, rfl, DPut.t (k := [.inl (X + (0 + (i : Int))), .inl Y]) (s8 _ _ g7) g8 (small1000' (by omega)), ?_⟩
          have lp := length_putK kv' [.inl (X + (0 + (i : Int))), .inl Y] (V.bl true)
          exact ⟨_, _, rfl, (d7.same s8).set But.refl.upd ngs.symm, upd_same, by omega⟩
        · rintro σ H7 ⟨v8, kv', rfl, d7, g7, l7⟩
          tm_at "rzs"
          intro q8 H8 f8 s8 g8
          exact (k kv' H8 (d7.same s8) (s8 _ _ g7) (by omega)).2 q8 X Y m (d7.free g7 f8) g8 bX m0 m1
end
end My
namespace My
open PySem PySem.Spec PyProof.Rows L2
section
variable {P : Program} {w : World} {K : PySem.W.Frag} {mg : Str → Option Value} {base : Heap}
def sp_w_tall : Sp := fun vs H Q _ => ∃ (s g p : Addr) (kvs : List (List Key × V)) (l x y m : Int), vs = [.ref s, .ref g, .int l, .ref p] ∧ Src H s ∧ H g = some (.dT kvs) ∧ kvs.length ≤ 1000 ∧ H p = some (.tup [.int x, .int y, .int m, .int 1]) ∧ 1 ≤ m ∧ m ≤ 3 ∧
  ∀ (kvs' : List (List Key × V)) (q : Addr) (d : Int) H', Dg s g H H' → H' g = some (.dT kvs') → kvs'.length ≤ kvs.length + 10 → H q = none → H' q = some (.tup [.int x, .int y, .int m, .int d]) → Q (.ref q) H'
theorem ok_w_tall (T : Tx K mg) : FnOk P w K mg base CX0 3 T.d_w_tall.f T.d_w_tall.fd ["_law_source_here", "_law_gone", "_law_low", "_law_plot"] (sp_w_tall) := by
  refine T.d_w_tall.F.ok sc_w_tall (fun vs H Q E h => ?_) (fun cdv A outer s H vs Q E hr h => ?_)
  · obtain ⟨s, g, p, kvs, l, x, y, m, rfl, _⟩ := h
    rfl
  · obtain ⟨s, g, p, kvs, l, x, y, m, rfl, hs, hg, kn, hp, m0, m1, k⟩ := h
    refine ⟨_, (pss_cons (ps_asg (pv 3) (pg_tup (by rfl) (pgs_cons (pg_name (i := 4) sc_w_tall.nd rfl (Or.inr rfl)) (pgs_cons (pg_name (i := 5) sc_w_tall.nd rfl (Or.inr rfl)) (pgs_cons (pg_name (i := 6) sc_w_tall.nd rfl (Or.inl rfl)) (pgs_cons (pg_name (i := 7) sc_w_tall.nd rfl (Or.inr rfl)) pgs_nil))))))
      (pss_cons (ps_while PassesOwn.never (PW.pt (pw_and (pt_cmpR op_lt (pe_op op_add (pv 5) (pv 7)) (pv 2) (nomark _)) (pw_and (pt_cmpR op_lt (pv 7) pe_int (nomark _)) (pw_and1 (pt_cmpR op_gt (pe_call (ok_w_next T) (hr.mono (by decide)) (by rfl) T.d_w_next.g T.d_w_next.F.kp T.d_w_next.b .nil pass0 (pa_cons (pv 0) (pa_cons pe_int pa_nil))) pe_int (nomark _))))))
      (pss_cons (ps_if (pt_val (pe_callB (cr_anyK (K := K) rfl rfl) (by rfl) T.b_any (by decide +kernel) (pa_cons (pe_lc (own := [("_law_k", 8)]) (g := gName 8) (by rfl) sc_w_tall.nd (pi_range1 (by rfl) T.b_range (pa_cons (pv 6) pa_nil)) (blkOk_by (own := [("_law_k", 8)]) (N := N_w_tall) (sc := defScope s_w_tall) (by decide +kernel)) (fun _ _ _ _ _ => (pg_name (i := 8) sc_w_tall.nd rfl (Or.inl rfl))) (fun _ _ _ _ _ => pts_nil) (fun _ _ _ _ _ => (pe_cmp (pc_din (hu_of hr) (pe_tupA (pa_cons (pe_op op_add (pv 4) (pv 8)) (pa_cons (pe_op op_add (pv 5) (pv 7)) pa_nil))) (pv 1))))) pa_nil)))
      (pss_one (ps_ret (pe_tupA (pa_cons (pv 4) (pa_cons (pv 5) (pa_cons (pv 6) (pa_cons (pv 7) pa_nil)))))))
      pss_nil)
      (pss_cons (ps_for PassesOwn.never (by rfl) (pi_range1 (by rfl) T.b_range (pa_cons (pv 6) pa_nil)) (pg_name (i := 8) sc_w_tall.nd rfl (Or.inl rfl))
      (pss_one (ps_dput (hu_of hr) (pv 1) (pe_tupA (pa_cons (pe_op op_add (pv 4) (pv 8)) (pa_cons (pe_op op_add (pv 5) (pv 7)) pa_nil))) pe_bl rfl)))
      (pss_one (ps_set (i := 7) sc_w_tall.nd rfl (Or.inr rfl) (pe_op op_add (pv 7) pe_int))))))
      (pss_one (ps_ret (pe_tupA (pa_cons (pv 4) (pa_cons (pv 5) (pa_cons (pv 6) (pa_cons (pv 7) pa_nil))))))))), ?_⟩
    tm_at "rzs"
    refine ⟨p, _, rfl, sqT hp, rfl, ?_⟩
    tm_at "rzs"
    show tSeq _ _ _ [some (.ref s), some (.ref g), some (.int l), some (.ref p), some (.int x), some (.int y), some (.int m), some (.int 1), none] H
    refine ⟨fun w σ H' => ∃ (v8 : Option V) (d : Int) (kv : List (List Key × V)), σ = [some (.ref s), some (.ref g), some (.int l), some (.ref p), some (.int x), some (.int y), some (.int m), some (.int d), v8] ∧ Dg s g H H' ∧ H' g = some (.dT kv) ∧ 1 ≤ d ∧ (w : Int) = 3 - d + 0 ∧ kv.length ≤ kvs.length + 3 * (d.toNat - 1),
      ⟨2, _, 1, kvs, rfl, Dg.refl hs, hg, by omega, by omega, by simp⟩, ?_⟩
    rintro w σ H1 ⟨v8, d, kv, rfl, d1, g1, d0, ew, lk⟩
    tm_at "rzs"
    have out : ∀ H' kv' d', Dg s g H H' → H' g = some (.dT kv') → kv'.length ≤ kvs.length + 10 → New H' (.tup [.int x, .int y, .int m, .int d']) fun v H2 => Q v H2 := fun H' kv' d' dd gg ll q H2 f2 s2 g2 => k kv' q d' H2 (dd.same s2) (s2 _ _ gg) ll (dd.free gg f2) g2
    have lk10 : kv.length ≤ kvs.length + 10 := by omega
    refine ite2 (fun e1 => ?_) (fun e1 => ?_)
    rotate_left
    · tm_at "rzs"
      exact out H1 kv d d1 g1 lk10
    tm_at "rzs"
    refine ite2 (fun e2 => ?_) (fun e2 => ?_)
    rotate_left
    · tm_at "rzs"
      exact out H1 kv d d1 g1 lk10
    have e2 := of_decide_eq_true e2
    have hs1 := d1.s
    tm_at "rzs"
    intro n H2 d2 l2 u2
    have d12 := d1.dr d2
    have ngs : g ≠ s := by rintro rfl; obtain ⟨_, z⟩ := hs; rw [hg] at z; cases z
    have g2 := d2.app ngs g1
    tm_at "rzs"
    refine ite2 (fun e3 => ?_) (fun e3 => ?_)
    rotate_left
    · tm_at "rzs"
      exact out H2 kv d d12 g2 lk10
    refine ⟨fun σ' H' => ∃ (v8 : Option V) (kv' : List (List Key × V)), σ' = [some (.ref s), some (.ref g), some (.int l), some (.ref p), some (.int x), some (.int y), some (.int m), some (.int (d + 1)), v8] ∧ Dg s g H H' ∧ H' g = some (.dT kv') ∧ kv'.length ≤ kvs.length + 3 * d.toNat, fun σ' H' ⟨w8, kv', e, dd, gg, ll⟩ => ⟨w - 1, by omega, w8, d + 1, kv', e, dd, gg, by omega, by omega, by omega⟩, ?_⟩
    tm_at "rzs"
    have hs2 := d12.s
    refine fun D hD => lcRm (n := m.toNat) (fun i => .bl ((valV kv [.inl (x + (0 + (i : Int))), .inl (y + d)]).isSome)) hD (by omega) (fun i H3 Kt Kf hi s3 kt => ?_) (fun H3 s3 g3 => ?_)
    · tm_at "rzs"
      intro q H4 f4 s4 g4
      tm_at "rzs"
      refine ⟨g, _, rfl, DGet.t (k := [.inl (x + (0 + (i : Int))), .inl (y + d)]) (s4 _ _ (s3 _ _ g2)) g4, ?_⟩
      exact kt _ s4
    rw [bls] at g3
    have d13 := d12.same s3
    have g3' := s3 _ _ g2
    tm_at "rzs"
    refine ⟨D, _, rfl, sqL g3, ?_⟩
    tm_at "rzs"
    refine ite2 (fun e4 => ?_) (fun e4 => ?_)
    · tm_at "rzs"
      exact out H3 kv d d13 g3' lk10
    tm_at "rzs"
    refine for_range (lo := 0) (n := m.toNat) (fun i σ H' => ∃ (v8 : Option V) (kv' : List (List Key × V)), σ = [some (.ref s), some (.ref g), some (.int l), some (.ref p), some (.int x), some (.int y), some (.int m), some (.int d), v8] ∧ Dg s g H H' ∧ H' g = some (.dT kv') ∧ kv'.length ≤ kv.length + i)
      ⟨_, kv, rfl, d13, g3', by omega⟩ ?_ ?_
    · rintro i σ H4 hi ⟨v8, kv', rfl, d4, g4, l4⟩
      dsimp only [gName]
      tm_at "rzs"
      intro q H5 f5 s5 g5
      refine ⟨g, _, rfl, DPut.t (k := [.inl (x + (0 + (i : Int))), .inl (y + d)]) (s5 _ _ g4) g5 (small1000' (by omega)), ?_⟩
      have lp := length_putK kv' [.inl (x + (0 + (i : Int))), .inl (y + d)] (V.bl true)
      exact ⟨_, _, rfl, (d4.same s5).set But.refl.upd ngs.symm, upd_same, by omega⟩
    · rintro σ H4 ⟨v8, kv', rfl, d4, g4, l4⟩
      tm_at "rzs"
      · exact kv'
      · exact ⟨g4, by have : m.toNat ≤ 3 := by omega
                      omega⟩
end
end My
namespace My
open PySem PySem.Spec PyProof.Rows L2
section
variable {P : Program} {w : World} {K : PySem.W.Frag} {mg : Str → Option Value} {base : Heap}
def sp_w_apart : Sp := fun vs H Q _ => ∃ (s : Addr) (c a l : Int), vs = [.ref s, .int c, .int a, .int l] ∧ Src H s ∧ 0 ≤ c ∧ c ≤ 8 ∧ 1 ≤ a ∧ a ≤ 10 ∧ 1 ≤ l ∧ l ≤ 10 ∧
  ∀ (p : Addr) (us : List V) (ds : List PyData) H', Dr s H H' → H p = none → H' p = some (.lst us) → Cs4 H' us ds → us.length ≤ 8 → Q (.ref p) H'
theorem ok_w_apart (T : Tx K mg) : FnOk P w K mg base CX0 4 T.d_w_apart.f T.d_w_apart.fd ["_law_source_here", "_law_count", "_law_across", "_law_low"] (sp_w_apart) := by
  refine T.d_w_apart.F.ok sc_w_apart (fun vs H Q E h => ?_) (fun cdv A outer s H vs Q E hr h => ?_)
  · obtain ⟨s, c, a, l, rfl, _⟩ := h
    rfl
  · obtain ⟨s, c, a, l, rfl, hs, c0, c1, a0, a1, l0, l1, k⟩ := h
    refine ⟨_, (pss_cons (ps_set (i := 4) sc_w_apart.nd rfl (Or.inl rfl) pe_dnewTA)
      (pss_cons (ps_set (i := 5) sc_w_apart.nd rfl (Or.inl rfl) (pe_lstA pa_nil))
      (pss_cons (ps_for PassesOwn.never (by rfl) (pi_range1 (by rfl) T.b_range (pa_cons (pv 1) pa_nil)) (pg_name (i := 6) sc_w_apart.nd rfl (Or.inl rfl))
      (pss_cons (ps_set (i := 7) sc_w_apart.nd rfl (Or.inl rfl) (pe_call (ok_w_free T) (hr.mono (by decide)) (by rfl) T.d_w_free.g T.d_w_free.F.kp T.d_w_free.b .nil pass0 (pa_cons (pv 0) (pa_cons (pv 4) (pa_cons (pv 2) (pa_cons (pv 3) pa_nil))))))
      (pss_one (ps_if (pt_cmpR op_notN (pv 7) pe_non (nomark _))
      (pss_one (ps_expr (pe_bm PySem.F.plainAttrs_list PySem.F.slot_list_append PySem.F.type_list_append mt_appendA (pv 5) (pa_cons (pe_call (ok_w_tall T) (hr.mono (by decide)) (by rfl) T.d_w_tall.g T.d_w_tall.F.kp T.d_w_tall.b .nil pass0 (pa_cons (pv 0) (pa_cons (pv 4) (pa_cons (pv 3) (pa_cons (pv 7) pa_nil))))) pa_nil))))
      pss_nil))))
      (pss_one (ps_ret (pv 5)))))), ?_⟩
    tm_at "rzs"
    intro g H1 f1 s1 g1
    have hs1 := hs.same s1
    have ng : g ≠ s := hs.ne f1
    tm_at "rzs"
    intro p H2 f2 s2 g2
    have hs2 := hs1.same s2
    have np : p ≠ s := hs1.ne f2
    have npg : p ≠ g := (ne_of_none g1 f2).symm
    have f2' : H p = none := by
      cases e : H p with
      | none => rfl
      | some o => rw [s1 _ _ e] at f2; cases f2
    tm_at "rzs"
    refine for_range (lo := 0) (n := c.toNat) (fun i σ H' => ∃ (v6 v7 : Option V) (us : List V) (ds : List PyData) (kvs : List (List Key × V)), σ = [some (.ref s), some (.int c), some (.int a), some (.int l), some (.ref g), some (.ref p), v6, v7] ∧ Dg s g H H' ∧ H' g = some (.dT kvs) ∧ kvs.length ≤ 13 * i ∧ H' p = some (.lst us) ∧ Cs4 H' us ds ∧ us.length ≤ i)
      ⟨_, _, [], [], [], rfl, (Dg.refl hs).same (s1.trans s2), s2 _ _ g1, by simp, g2, .nil, by simp⟩ ?_ ?_
    · rintro i σ H3 hi ⟨v6, v7, us, ds, kvs, rfl, d3, hg, lk, gp, hu, ly⟩
      dsimp only [gName]
      tm_at "rzs"
      refine ⟨s, g, kvs, a, l, rfl, d3.s, hg, by omega, a0, a1, l0, l1, fun kvs' H4 d4 g4 l4 => ?_⟩
      have gp4 := d4.b _ _ np npg gp
      have hu4 := hu.dg d4 d3.s hg
      refine ⟨?_, fun q x y m f5 g5 bX m0 m1 => ?_⟩
      · tm_at "rzs"
        exact ⟨_, _, us, ds, kvs', rfl, d3.trans d4, g4, by omega, gp4, hu4, by omega⟩
      · tm_at "rzs"
        refine ⟨s, g, q, kvs', l, x, y, m, rfl, d4.s, g4, by omega, g5, m0, m1, fun kv5 r d H5 d5 h5 l5 f6 g6 => ?_⟩
        have gp5 := d5.b _ _ np npg gp4
        have hu5 := hu4.dg d5 d4.s g4
        tm_at "rzs"
        refine ⟨_, _, _, rfl, rfl, gp5, small1000 (by omega), fun H9 b9 g9 => ?_⟩
        exact ⟨_, _, _, _, kv5, rfl, ((d3.trans d4).trans d5).mut b9 f2' np.symm, b9 _ _ npg.symm h5, by omega, g9, (hu5.snoc g6 bX).but b9 gp5, by rw [List.length_append, List.length_singleton]; omega⟩
    · rintro σ H3 ⟨v6, v7, us, ds, kvs, rfl, d3, hg, lk, gp, hu, ly⟩
      tm_at "rzs"
      refine k p us ds H3 ⟨d3.s, fun b o n e => d3.b b o n ?_ e⟩ f2' gp hu (by omega)
      rintro rfl
      rw [f1] at e
      cases e
end
end My
namespace My
open PySem PySem.Spec PyProof.Rows L2
section
variable {P : Program} {w : World} {K : PySem.W.Frag} {mg : Str → Option Value} {base : Heap}
def sp_w_any : Sp := fun vs H Q _ => ∃ (s : Addr) (c a l : Int), vs = [.ref s, .int c, .int a, .int l] ∧ Src H s ∧ 0 ≤ c ∧ c ≤ 8 ∧ 1 ≤ a ∧ a ≤ 10 ∧ 1 ≤ l ∧ l ≤ 10 ∧
  ∀ (p : Addr) (us : List V) (ds : List PyData) H', Dr s H H' → H p = none → H' p = some (.lst us) → Cs4 H' us ds → us.length ≤ 8 → Q (.ref p) H'
theorem ok_w_any (T : Tx K mg) : FnOk P w K mg base CX0 3 T.d_w_any.f T.d_w_any.fd ["_law_source_here", "_law_count", "_law_across", "_law_low"] (sp_w_any) := by
  refine T.d_w_any.F.ok sc_w_any (fun vs H Q E h => ?_) (fun cdv A outer s H vs Q E hr h => ?_)
  · obtain ⟨s, c, a, l, rfl, _⟩ := h
    rfl
  · obtain ⟨s, c, a, l, rfl, hs, c0, c1, a0, a1, l0, l1, k⟩ := h
    refine ⟨_, (pss_cons (ps_set (i := 4) sc_w_any.nd rfl (Or.inl rfl) (pe_lstA pa_nil))
      (pss_cons (ps_for PassesOwn.never (by rfl) (pi_range1 (by rfl) T.b_range (pa_cons (pv 1) pa_nil)) (pg_name (i := 5) sc_w_any.nd rfl (Or.inl rfl))
      (pss_cons (ps_set (i := 6) sc_w_any.nd rfl (Or.inl rfl) (pe_op op_sub (pe_call (ok_w_next T) (hr.mono (by decide)) (by rfl) T.d_w_next.g T.d_w_next.F.kp T.d_w_next.b .nil pass0 (pa_cons (pv 0) (pa_cons (pe_op op_add (pv 2) pe_int) pa_nil))) pe_int))
      (pss_cons (ps_set (i := 7) sc_w_any.nd rfl (Or.inl rfl) (pe_op op_sub (pe_call (ok_w_next T) (hr.mono (by decide)) (by rfl) T.d_w_next.g T.d_w_next.F.kp T.d_w_next.b .nil pass0 (pa_cons (pv 0) (pa_cons (pe_op op_add (pv 3) pe_int) pa_nil))) pe_int))
      (pss_one (ps_expr (pe_bm PySem.F.plainAttrs_list PySem.F.slot_list_append PySem.F.type_list_append mt_appendA (pv 4) (pa_cons (pe_tupA (pa_cons (pv 6) (pa_cons (pv 7) (pa_cons (pe_call (ok_w_next T) (hr.mono (by decide)) (by rfl) T.d_w_next.g T.d_w_next.F.kp T.d_w_next.b .nil pass0 (pa_cons (pv 0) (pa_cons pe_int pa_nil))) (pa_cons (pe_call (ok_w_next T) (hr.mono (by decide)) (by rfl) T.d_w_next.g T.d_w_next.F.kp T.d_w_next.b .nil pass0 (pa_cons (pv 0) (pa_cons pe_int pa_nil))) pa_nil))))) pa_nil)))))))
      (pss_one (ps_ret (pv 4))))), ?_⟩
    tm_at "rzs"
    intro p H1 f1 s1 g1
    have np : p ≠ s := hs.ne f1
    have hs1 := hs.same s1
    tm_at "rzs"
    refine for_range (lo := 0) (n := c.toNat) (fun i σ H' => ∃ (v5 v6 v7 : Option V) (us : List V) (ds : List PyData), σ = [some (.ref s), some (.int c), some (.int a), some (.int l), some (.ref p), v5, v6, v7] ∧ Dr s H H' ∧ H' p = some (.lst us) ∧ Cs4 H' us ds ∧ us.length = i)
      ⟨_, _, _, [], [], rfl, Dr.of hs s1, g1, .nil, rfl⟩ ?_ ?_
    · rintro i σ H3 hi ⟨v5, v6, v7, us, ds, rfl, d3, gp, hu, ly⟩
      dsimp only [gName]
      tm_at "rzs"
      intro x H4 d4 l4 u4
      tm_at "rzs"
      intro y H5 d5 l5 u5
      tm_at "rzs"
      intro m H6 d6 l6 u6
      tm_at "rzs"
      intro h H7 d7 l7 u7
      tm_at "rzs"
      intro q H8 f8 s8 g8
      have d38 := (((d4.trans d5).trans d6).trans d7).same s8
      have gp8 := d38.app np gp
      have hu8 := hu.dr d38 d3.s
      tm_at "rzs"
      refine ⟨_, _, _, rfl, rfl, gp8, small1000 (by omega), fun H9 b9 g9 => ?_⟩
      exact ⟨_, _, _, _, _, rfl, (d3.trans d38).mut b9 f1 np.symm, g9, (hu8.snoc g8 ⟨by omega, by omega⟩).but b9 gp8, by rw [List.length_append, ly]; rfl⟩
    · rintro σ H3 ⟨v5, v6, v7, us, ds, rfl, d3, gp, hu, ly⟩
      tm_at "rzs"
      exact k p us ds H3 d3 f1 gp hu (by omega)
end
end My
namespace My
open PySem PySem.Spec PyProof.Rows L2
section
variable {P : Program} {w : World} {K : PySem.W.Frag} {mg : Str → Option Value} {base : Heap}
def sp_w_spoilt : Sp := fun vs H Q _ => ∃ (s p : Addr) (a l : Int) (us : List V) (ds : List PyData), vs = [.ref s, .ref p, .int a, .int l] ∧ Src H s ∧ p ≠ s ∧ H p = some (.lst us) ∧ Cs4 H us ds ∧ us ≠ [] ∧ us.length ≤ 8 ∧
  ∀ (q : Addr) (us' : List V) H', Dr s H H' → H q = none → H' q = some (.lst us') → Its1 H' us' → us'.length ≤ 9 → Q (.ref q) H'
theorem ok_w_spoilt (T : Tx K mg) : FnOk P w K mg base CX0 3 T.d_w_spoilt.f T.d_w_spoilt.fd ["_law_source_here", "_law_cells", "_law_across", "_law_low"] (sp_w_spoilt) := by
  refine T.d_w_spoilt.F.ok sc_w_spoilt (fun vs H Q E h => ?_) (fun cdv A outer s H vs Q E hr h => ?_)
  · obtain ⟨s, p, a, l, us, ds, rfl, _⟩ := h
    rfl
  · obtain ⟨s, p, a, l, us, ds, rfl, hs, np, hp, hu, ne, ln, k⟩ := h
    refine ⟨_, (pss_cons (ps_set (i := 4) sc_w_spoilt.nd rfl (Or.inl rfl) (pe_call (ok_w_next T) (hr.mono (by decide)) (by rfl) T.d_w_next.g T.d_w_next.F.kp T.d_w_next.b .nil pass0 (pa_cons (pv 0) (pa_cons (pe_callB (call_lenK (K := K) rfl) (by rfl) T.b_len (by decide +kernel) (pa_cons (pv 1) pa_nil)) pa_nil))))
      (pss_cons (ps_asg (pe_ix (ix_listK (K := K) rfl) (pv 1) (pv 4) (fun _ _ => rfl)) (pg_tup (by rfl) (pgs_cons (pg_name (i := 5) sc_w_spoilt.nd rfl (Or.inl rfl)) (pgs_cons (pg_name (i := 6) sc_w_spoilt.nd rfl (Or.inl rfl)) (pgs_cons (pg_name (i := 7) sc_w_spoilt.nd rfl (Or.inl rfl)) (pgs_cons (pg_name (i := 8) sc_w_spoilt.nd rfl (Or.inl rfl)) pgs_nil))))))
      (pss_cons (ps_set (i := 9) sc_w_spoilt.nd rfl (Or.inl rfl) (pe_ix (ix_listK (K := K) rfl) (pv 1) (pe_call (ok_w_next T) (hr.mono (by decide)) (by rfl) T.d_w_next.g T.d_w_next.F.kp T.d_w_next.b .nil pass0 (pa_cons (pv 0) (pa_cons (pe_callB (call_lenK (K := K) rfl) (by rfl) T.b_len (by decide +kernel) (pa_cons (pv 1) pa_nil)) pa_nil))) (fun _ _ => rfl)))
      (pss_cons (ps_set (i := 10) sc_w_spoilt.nd rfl (Or.inl rfl) (pe_lstA (pa_cons (pe_tupA (pa_cons (pv 5) (pa_cons (pv 6) (pa_cons (pe_op op_sub (pe_op op_add (pv 2) pe_int) (pv 5)) (pa_cons (pv 8) pa_nil))))) (pa_cons (pe_tupA (pa_cons (pv 5) (pa_cons (pv 6) (pa_cons (pv 7) (pa_cons (pe_op op_sub (pe_op op_add (pv 3) pe_int) (pv 6)) pa_nil))))) (pa_cons (pe_tupA (pa_cons (pv 5) (pa_cons (pv 6) (pa_cons pe_int (pa_cons (pv 8) pa_nil))))) (pa_cons (pe_tupA (pa_cons (pv 5) (pa_cons (pv 6) (pa_cons (pv 7) (pa_cons pe_int pa_nil))))) pa_nil))))))
      (pss_cons (ps_set (i := 10) sc_w_spoilt.nd rfl (Or.inl rfl) (pe_op (op_catK (K := K) rfl) (pv 10) (pe_lstA (pa_cons (pe_tupA (pa_cons (pe_un un_neg pe_int) (pa_cons (pv 6) (pa_cons (pv 7) (pa_cons (pv 8) pa_nil))))) (pa_cons (pe_tupA (pa_cons (pv 5) (pa_cons (pe_un un_neg pe_int) (pa_cons (pv 7) (pa_cons (pv 8) pa_nil))))) (pa_cons (pe_tupA (pa_cons (pv 5) (pa_cons (pv 6) (pa_cons (pv 7) pa_nil)))) (pa_cons (pe_lstA (pa_cons (pv 5) (pa_cons (pv 6) (pa_cons (pv 7) (pa_cons (pv 8) pa_nil))))) (pa_cons pe_non (pa_cons (pe_tupA pa_nil) pa_nil)))))))))
      (pss_cons (ps_set (i := 10) sc_w_spoilt.nd rfl (Or.inl rfl) (pe_op (op_catK (K := K) rfl) (pv 10) (pe_lstA (pa_cons (pe_tupA (pa_cons (pv 5) (pa_cons (pv 6) (pa_cons pe_bl (pa_cons (pv 8) pa_nil))))) (pa_cons (pe_tupA (pa_cons (pv 5) (pa_cons (pv 6) (pa_cons (pv 7) (pa_cons (pv 8) (pa_cons pe_int pa_nil)))))) (pa_cons (pe_tupA (pa_cons (pe_callTy call_str_int (by rfl) T.b_str (by decide +kernel) (pa_cons (pv 5) pa_nil)) (pa_cons (pv 6) (pa_cons (pv 7) (pa_cons (pv 8) pa_nil))))) (pa_cons (pe_tupA (pa_cons (pv 5) (pa_cons pe_non (pa_cons (pv 7) (pa_cons (pv 8) pa_nil))))) pa_nil)))))))
      (pss_cons (ps_set (i := 10) sc_w_spoilt.nd rfl (Or.inl rfl) (pe_op (op_catK (K := K) rfl) (pv 10) (pe_lstA (pa_cons (pv 9) (pa_cons (pe_tupA (pa_cons (pe_ix (ix_tupK (K := K) rfl) (pv 9) pe_int (fun _ _ => rfl)) (pa_cons (pe_ix (ix_tupK (K := K) rfl) (pv 9) pe_int (fun _ _ => rfl)) (pa_cons pe_int (pa_cons pe_int pa_nil))))) (pa_cons (pe_tupA (pa_cons (pv 5) (pa_cons (pv 6) (pa_cons (pe_op op_add (pv 7) pe_int) (pa_cons (pv 8) pa_nil))))) (pa_cons (pe_tupA (pa_cons (pv 5) (pa_cons (pv 6) (pa_cons (pv 7) (pa_cons (pe_op op_add (pv 8) pe_int) pa_nil))))) (pa_cons (pe_tupA (pa_cons pe_bl (pa_cons pe_int (pa_cons pe_int (pa_cons pe_int pa_nil))))) pa_nil))))))))
      (pss_cons (ps_set (i := 11) sc_w_spoilt.nd rfl (Or.inl rfl) (pe_ix (ix_listK (K := K) rfl) (pv 10) (pe_call (ok_w_next T) (hr.mono (by decide)) (by rfl) T.d_w_next.g T.d_w_next.F.kp T.d_w_next.b .nil pass0 (pa_cons (pv 0) (pa_cons (pe_callB (call_lenK (K := K) rfl) (by rfl) T.b_len (by decide +kernel) (pa_cons (pv 10) pa_nil)) pa_nil))) (fun _ _ => rfl)))
      (pss_one (ps_ret (pe_op (op_catK (K := K) rfl) (pe_op (op_catK (K := K) rfl) (pe_slice (sl_listK (K := K) rfl) (pv 1) po_none (po_some (pv 4))) (pe_lstA (pa_cons (pv 11) pa_nil))) (pe_slice (sl_listK (K := K) rfl) (pv 1) (po_some (pe_op op_add (pv 4) pe_int)) po_none)))))))))))), ?_⟩
    tm_at "rzs"
    have l0 : 0 < us.length := List.length_pos_iff.mpr ne
    refine ⟨by omega, by omega, ?_⟩
    intro at1 H1 d1 l1 u1
    have gp1 := d1.app np hp
    have hu1 := hu.dr d1 hs
    have hs1 := d1.s
    tm_at "rzs"
    obtain ⟨v, hv, mv⟩ := at_some (xs := us) l1 u1
    obtain ⟨iv, hiv⟩ := List.getElem?_of_mem mv
    obtain ⟨dv, hdv, hit⟩ := hu1.1.at' hiv
    obtain ⟨x, y, m, d, rfl, bX⟩ := hu1.2 dv (List.mem_of_getElem? hdv)
    obtain ⟨pv, rfl, gv⟩ := hit.four
    refine ⟨_, _, _, _, rfl, rfl, sqL gp1, hv, ?_⟩
    refine ⟨pv, _, rfl, sqT gv, rfl, ?_⟩
    refine ⟨_, _, rfl, ?_⟩
    refine ⟨_, _, rfl, ?_⟩
    refine ⟨_, _, rfl, ?_⟩
    refine ⟨_, _, rfl, ?_⟩
    refine ⟨rfl, ?_⟩
    show tSeq _ _ _ [some (.ref s), some (.ref p), some (.int a), some (.int l), some (.int at1), some (.int x), some (.int y), some (.int m), some (.int d), none, none, none] H1
    refine ⟨_, rfl, ?_⟩
    refine ⟨_, rfl, ?_⟩
    refine ⟨_, rfl, ?_⟩
    refine ⟨_, _, rfl, .inl ⟨_, sqL gp1, rfl⟩, ?_⟩
    refine ⟨_, _, rfl, hs1, by omega, by omega, fun at2 H2 d2 l2 u2 => ?_⟩
    have gp2 := d2.app np gp1
    have hu2 := hu1.dr d2 hs1
    have hs2 := d2.s
    obtain ⟨w, hw, mw⟩ := at_some (xs := us) l2 u2
    obtain ⟨iw, hiw⟩ := List.getElem?_of_mem mw
    obtain ⟨dw, hdw, hitw⟩ := hu2.1.at' hiw
    obtain ⟨x', y', m', d', rfl, _⟩ := hu2.2 dw (List.mem_of_getElem? hdw)
    obtain ⟨pw, rfl, gw⟩ := hitw.four
    refine ⟨_, _, _, _, rfl, rfl, sqL gp2, hw, ?_⟩
    have d02 := d1.trans d2
    tm_at "rzs"
    intro q1 H3 f3 s3 g3
    tm_at "rzs"
    intro q2 H4 f4 s4 g4
    tm_at "rzs"
    intro q3 H5 f5 s5 g5
    tm_at "rzs"
    intro q4 H6 f6 s6 g6
    refine ⟨Nat.le_of_ble_eq_true rfl, ?_⟩
    intro L1 H7 f7 s7 g7
    have s27 := s3.trans (s4.trans (s5.trans (s6.trans s7)))
    have A1 : Its1 H7 [.ref q1, .ref q2, .ref q3, .ref q4] := ⟨_, its_cons ((tupI (ds := [.int x, .int y, .int (a + 1 - x), .int d]) g3 rfl).mono (s4.trans (s5.trans (s6.trans s7)))) (its_cons ((tupI (ds := [.int x, .int y, .int m, .int (l + 1 - y)]) g4 rfl).mono (s5.trans (s6.trans s7))) (its_cons ((tupI (ds := [.int x, .int y, .int 0, .int d]) g5 rfl).mono (s6.trans s7)) (its_cons ((tupI (ds := [.int x, .int y, .int m, .int 0]) g6 rfl).mono s7) its_nil))), by
      refine all_cd ?_ (all_cd ?_ (all_cd ?_ (all_cd ?_ all_nd))) <;> simp [CelD, PyData.canLay0, PyData.canLayAll0, PyData.depth, PyData.depthAll, strOk_of]⟩
    generalize hl1 : [V.ref q1, .ref q2, .ref q3, .ref q4] = W1 at A1 g7
    have lW1 : W1.length = 4 := by rw [← hl1]; rfl
    clear hl1
    have s2w := s27
    tm_at "rzs"
    intro q8 H8 f8 s8 g8
    tm_at "rzs"
    intro q9 H9 f9 s9 g9
    tm_at "rzs"
    intro q10 H10 f10 s10 g10
    tm_at "rzs"
    intro q11 H11 f11 s11 g11
    tm_at "rzs"
    intro q12 H12 f12 s12 g12
    refine ⟨Nat.le_of_ble_eq_true rfl, ?_⟩
    intro L13 H13 f13 s13 g13
    have SA13 := (s8.trans (s9.trans (s10.trans (s11.trans (s12.trans s13)))))
    have SW13 := s2w.trans SA13
    have A13 : Its1 H13 [.ref q8, .ref q9, .ref q10, .ref q11, .non, .ref q12] := ⟨_, (its_cons ((tupI (ds := [.int (-1), .int y, .int m, .int d]) g8 rfl).mono (s9.trans (s10.trans (s11.trans (s12.trans s13))))) (its_cons ((tupI (ds := [.int x, .int (-1), .int m, .int d]) g9 rfl).mono (s10.trans (s11.trans (s12.trans s13)))) (its_cons ((tupI (ds := [.int x, .int y, .int m]) g10 rfl).mono (s11.trans (s12.trans s13))) (its_cons ((lstI (ds := [.int x, .int y, .int m, .int d]) g11 rfl).mono (s12.trans s13)) (its_cons (.fl .none rfl) (its_cons ((tupI (ds := []) g12 rfl).mono s13) its_nil)))))), by
      refine all_cd ?_ (all_cd ?_ (all_cd ?_ (all_cd ?_ (all_cd ?_ (all_cd ?_ all_nd))))) <;> simp [CelD, cel4, PyData.canLay0, PyData.canLayAll0, PyData.depth, PyData.depthAll, strOk_of]⟩
    generalize hl13 : ([.ref q8, .ref q9, .ref q10, .ref q11, .non, .ref q12] : List V) = W13 at A13 g13
    have lW13 : W13.length = 6 := by rw [← hl13]; rfl
    clear hl13
    refine ⟨L1, L13, _, _, rfl, rfl, SA13 _ _ g7, g13, by rw [lW1, lW13]; exact Nat.le_of_ble_eq_true rfl, fun L14 H14 f14 s14 g14 => ?_⟩
    have B14 := ((A1.same SA13).app A13).same s14
    have lB14 : (W1 ++ W13).length = 4 + 6 := by rw [List.length_append, lW1, lW13]
    generalize hb14 : W1 ++ W13 = U14 at B14 g14 lB14
    clear hb14
    replace s2w := SW13.trans s14
    tm_at "rzs"
    intro q15 H15 f15 s15 g15
    tm_at "rzs"
    intro q16 H16 f16 s16 g16
    tm_at "rzs"
    refine ⟨small_log bX, ?_⟩
    tm_at "rzs"
    intro q17 H17 f17 s17 g17
    tm_at "rzs"
    intro q18 H18 f18 s18 g18
    refine ⟨Nat.le_of_ble_eq_true rfl, ?_⟩
    intro L19 H19 f19 s19 g19
    have SA19 := (s15.trans (s16.trans (s17.trans (s18.trans s19))))
    have SW19 := s2w.trans SA19
    have A19 : Its1 H19 [.ref q15, .ref q16, .ref q17, .ref q18] := ⟨_, (its_cons ((tupI (ds := [.int x, .int y, .bool true, .int d]) g15 rfl).mono (s16.trans (s17.trans (s18.trans s19)))) (its_cons ((tupI (ds := [.int x, .int y, .int m, .int d, .int 1]) g16 rfl).mono (s17.trans (s18.trans s19))) (its_cons ((tupI (ds := [.str (toString x), .int y, .int m, .int d]) g17 rfl).mono (s18.trans s19)) (its_cons ((tupI (ds := [.int x, .none, .int m, .int d]) g18 rfl).mono s19) its_nil)))), by
      refine all_cd ?_ (all_cd ?_ (all_cd ?_ (all_cd ?_ all_nd))) <;> simp [CelD, cel4, PyData.canLay0, PyData.canLayAll0, PyData.depth, PyData.depthAll, strOk_of]⟩
    generalize hl19 : ([.ref q15, .ref q16, .ref q17, .ref q18] : List V) = W19 at A19 g19
    have lW19 : W19.length = 4 := by rw [← hl19]; rfl
    clear hl19
    refine ⟨L14, L19, _, _, rfl, rfl, SA19 _ _ g14, g19, by rw [lB14, lW19]; exact Nat.le_of_ble_eq_true rfl, fun L20 H20 f20 s20 g20 => ?_⟩
    have B20 := ((B14.same SA19).app A19).same s20
    have lB20 : (U14 ++ W19).length = 10 + 4 := by rw [List.length_append, lB14, lW19]
    generalize hb20 : U14 ++ W19 = U20 at B20 g20 lB20
    clear hb20
    replace s2w := SW19.trans s20
    tm_at "rzs"
    intro q21 H21 f21 s21 g21
    tm_at "rzs"
    intro q22 H22 f22 s22 g22
    tm_at "rzs"
    intro q23 H23 f23 s23 g23
    tm_at "rzs"
    intro q24 H24 f24 s24 g24
    refine ⟨Nat.le_of_ble_eq_true rfl, ?_⟩
    intro L25 H25 f25 s25 g25
    have SA25 := (s21.trans (s22.trans (s23.trans (s24.trans s25))))
    have SW25 := s2w.trans SA25
    have A25 : Its1 H25 [.ref pw, .ref q21, .ref q22, .ref q23, .ref q24] := ⟨_, (its_cons (hitw.mono SW25) (its_cons ((tupI (ds := [.int x', .int y', .int 1, .int 1]) g21 rfl).mono (s22.trans (s23.trans (s24.trans s25)))) (its_cons ((tupI (ds := [.int x, .int y, .int (m + 1), .int d]) g22 rfl).mono (s23.trans (s24.trans s25))) (its_cons ((tupI (ds := [.int x, .int y, .int m, .int (d + 1)]) g23 rfl).mono (s24.trans s25)) (its_cons ((tupI (ds := [.bool false, .int 0, .int 1, .int 1]) g24 rfl).mono s25) its_nil))))), by
      refine all_cd ?_ (all_cd ?_ (all_cd ?_ (all_cd ?_ (all_cd ?_ all_nd)))) <;> simp [CelD, cel4, PyData.canLay0, PyData.canLayAll0, PyData.depth, PyData.depthAll, strOk_of]⟩
    generalize hl25 : ([.ref pw, .ref q21, .ref q22, .ref q23, .ref q24] : List V) = W25 at A25 g25
    have lW25 : W25.length = 5 := by rw [← hl25]; rfl
    clear hl25
    refine ⟨L20, L25, _, _, rfl, rfl, SA25 _ _ g20, g25, by rw [lB20, lW25]; exact Nat.le_of_ble_eq_true rfl, fun L26 H26 f26 s26 g26 => ?_⟩
    have B26 := ((B20.same SA25).app A25).same s26
    have lB26 : (U20 ++ W25).length = 14 + 5 := by rw [List.length_append, lB20, lW25]
    generalize hb26 : U20 ++ W25 = U26 at B26 g26 lB26
    clear hb26
    replace s2w := SW25.trans s26
    have gp26 := s2w _ _ gp2
    have d26 := d02.same s2w
    have n26 : L26 ≠ s := (hs2.same (SW25)).ne f26
    refine ⟨_, rfl, ?_⟩
    refine ⟨_, rfl, ?_⟩
    refine ⟨_, rfl, ?_⟩
    refine ⟨_, _, rfl, .inl ⟨_, sqL g26, rfl⟩, ?_⟩
    refine ⟨_, _, rfl, d26.s, by omega, by omega, fun at3 H27 d27 l27 u27 => ?_⟩
    have g27 := d27.app n26 g26
    have gp27 := d27.app np gp26
    have B27 := B26.dr d27
    have d027 := d26.trans d27
    obtain ⟨one, ho, mo⟩ := at_some (xs := U26) l27 u27
    refine ⟨_, _, _, _, rfl, rfl, sqL g27, ho, ?_⟩
    tm_at "rzs"
    refine ⟨p, us, rfl, sqL gp27, fun p28 H28 f28 s28 g28 => ?_⟩
    tm_at "rzs"
    intro p29 H29 f29 s29 g29
    have hlen := cutV_length us none (some at1)
    refine ⟨p28, p29, _, _, rfl, rfl, s29 _ _ g28, g29, Nat.le_trans (Nat.add_le_add_right hlen 1) (by rw [sizeLine_eq]; omega), fun p30 H30 f30 s30 g30 => ?_⟩
    tm_at "rzs"
    have s2730 := s28.trans (s29.trans s30)
    refine ⟨p, us, rfl, sqL (s2730 _ _ gp27), fun p31 H31 f31 s31 g31 => ?_⟩
    have hlen2 := cutV_length us (some (at1 + 1)) none
    have e1 : (cutV us none (some at1)).length ≤ at1.toNat := by
      obtain ⟨k, rfl⟩ := Int.eq_ofNat_of_zero_le l1
      rw [cutV_take, List.length_take]
      exact Nat.min_le_left _ _
    have e2 : (cutV us (some (at1 + 1)) none).length ≤ us.length - (at1.toNat + 1) := by
      obtain ⟨k, rfl⟩ := Int.eq_ofNat_of_zero_le l1
      have : ((k : Int) + 1) = ((k + 1 : Nat) : Int) := rfl
      rw [this, cutV_drop, List.length_drop]
      exact Nat.le_refl _
    have e3 : (cutV us none (some at1) ++ [one] ++ cutV us (some (at1 + 1)) none).length ≤ 8 := by
      rw [List.length_append, List.length_append, List.length_singleton]
      omega
    refine ⟨p30, p31, _, _, rfl, rfl, s31 _ _ g30, g31, by rw [← List.length_append]; exact Nat.le_trans e3 (Nat.le_of_ble_eq_true rfl), fun p32 H32 f32 s32 g32 => ?_⟩
    have d32 := d027.same (s2730.trans (s31.trans s32))
    have cu := (((hu2.its.same s2w).dr d27).same (s2730.trans (s31.trans s32)))
    refine k p32 _ H32 d32 ?_ g32 (((cu.sub fun v m => cutV_mem m).app ?_).app (cu.sub fun v m => cutV_mem m)) (by omega)
    · exact (d027.same (s2730.trans s31)).free f32 ((d027.same (s2730.trans s31)).s.ne f32)
    · exact (B27.same (s2730.trans (s31.trans s32))).sub fun v m => by rw [List.mem_singleton.mp m]; exact mo
end
end My
namespace My
open PySem PySem.Spec PyProof.Rows L2
section
variable {P : Program} {w : World} {K : PySem.W.Frag} {mg : Str → Option Value} {base : Heap}
def sp_w_is_whole : Sp := fun vs H Q _ => ∃ (x : V) (t : String), vs = [x] ∧ Ty7 H x t ∧ Q (.bl (isI x)) H
theorem ok_w_is_whole (T : Tx K mg) : FnOk P w K mg base CX0 1 T.d_w_is_whole.f T.d_w_is_whole.fd ["_law_thing"] (sp_w_is_whole) := by
  refine T.d_w_is_whole.F.ok sc_w_is_whole (fun vs H Q E h => ?_) (fun cdv A outer s H vs Q E hr h => ?_)
  · obtain ⟨x, t, rfl, _⟩ := h
    rfl
  · obtain ⟨x, t, rfl, ht, k⟩ := h
    refine ⟨_, (pss_one (ps_ret (pe_and (pe_callB is_int (by rfl) T.b_isinstance (by decide +kernel) (pa_cons (pv 0) (pa_cons (pe_bltn (v := .ty "int") (by rfl) T.b_int (by decide +kernel) rfl) pa_nil))) (pe_one (pe_not (pe_callB is_bool (by rfl) T.b_isinstance (by decide +kernel) (pa_cons (pv 0) (pa_cons (pe_bltn (v := .ty "bool") (by rfl) T.b_bool (by decide +kernel) rfl) pa_nil)))))))), ?_⟩
    tm_at "rds"
    refine ite2 (fun e => ?_) (fun e => ?_)
    · tm_at "rds"
      rw [isI_bool e]
      exact k
    · rw [isI_no e]
      exact k
end
end My
namespace My
open PySem PySem.Spec PyProof.Rows L2
section
variable {P : Program} {w : World} {K : PySem.W.Frag} {mg : Str → Option Value} {base : Heap}
def sp_w_stands : Sp := fun vs H Q _ => ∃ (v : V) (o : Option (List V)) (c r : Int), vs = [v, .int c, .int r] ∧ ThAt H v o ∧ ∀ H', Same H H' → Q (.bl (spotB c r o)) H'
theorem ok_w_stands (T : Tx K mg) : FnOk P w K mg base CX0 2 T.d_w_stands.f T.d_w_stands.fd ["_law_plot", "_law_across", "_law_low"] (sp_w_stands) := by
  refine T.d_w_stands.F.ok sc_w_stands (fun vs H Q E h => ?_) (fun cdv A outer s H vs Q E hr h => ?_)
  · obtain ⟨v, o, c, r, rfl, _⟩ := h
    rfl
  · obtain ⟨v, o, c, r, rfl, hv, k⟩ := h
    refine ⟨_, (pss_cons (ps_if (PW.pt (pw_or (pt_not (pt_val (pe_callB is_tuple (by rfl) T.b_isinstance (by decide +kernel) (pa_cons (pv 0) (pa_cons (pe_bltn (v := .ty "tuple") (by rfl) T.b_tuple (by decide +kernel) rfl) pa_nil))))) (pw_or (pt_cmpR op_ne (pe_callB (call_lenK (K := K) rfl) (by rfl) T.b_len (by decide +kernel) (pa_cons (pv 0) pa_nil)) pe_int (nomark _)) (pw_or1 (pt_not (pt_val (pe_callB (cr_allK (K := K) rfl rfl) (by rfl) T.b_all (by decide +kernel) (pa_cons (pe_lc (own := [("_law_part", 7)]) (g := gName 7) (by rfl) sc_w_stands.nd (pi_tupK (K := K) rfl (pv 0)) (blkOk_by (own := [("_law_part", 7)]) (N := N_w_stands) (sc := defScope s_w_stands) (by decide +kernel)) (fun _ _ _ _ _ => (pg_name (i := 7) sc_w_stands.nd rfl (Or.inl rfl))) (fun _ _ _ _ _ => pts_nil) (fun _ _ _ _ _ => (pe_call (ok_w_is_whole T) (hr.mono (by decide)) (by rfl) T.d_w_is_whole.g T.d_w_is_whole.F.kp T.d_w_is_whole.b .nil pass0 (pa_cons (pv 7) pa_nil)))) pa_nil))))))))
      (pss_one (ps_ret pe_bl))
      pss_nil)
      (pss_cons (ps_asg (pv 0) (pg_tup (by rfl) (pgs_cons (pg_name (i := 3) sc_w_stands.nd rfl (Or.inl rfl)) (pgs_cons (pg_name (i := 4) sc_w_stands.nd rfl (Or.inl rfl)) (pgs_cons (pg_name (i := 5) sc_w_stands.nd rfl (Or.inl rfl)) (pgs_cons (pg_name (i := 6) sc_w_stands.nd rfl (Or.inl rfl)) pgs_nil))))))
      (pss_one (ps_ret (pe_and (pe_cmpR op_ge (pv 3) pe_int (nomark _)) (pe_and (pe_cmpR op_ge (pv 4) pe_int (nomark _)) (pe_and (pe_cmpR op_gt (pv 5) pe_int (nomark _)) (pe_and (pe_cmpR op_gt (pv 6) pe_int (nomark _)) (pe_and (pe_cmpR op_le (pe_op op_add (pv 3) (pv 5)) (pv 1) (nomark _)) (pe_one (pe_cmpR op_le (pe_op op_add (pv 4) (pv 6)) (pv 2) (nomark _)))))))))))), ?_⟩
    tm_at "rzs"
    cases hv with
    | other v t h n =>
      refine ⟨v, t, rfl, h, ?_⟩
      have e : decide (t = "tuple") = false := decide_eq_false n
      refine ⟨_, rfl, ?_⟩
      show if (!decide (t = "tuple")) = true then _ else _
      rw [e]
      tm_at "rzs"
      exact k _ (Same.refl _)
    | tup a xs h hx =>
      refine ⟨_, _, rfl, .tup h, ?_⟩
      tm_at "rzs"
      by_cases e4 : xs.length = 4
      rotate_left
      · refine iteT' (by rw [int_inj_dec, decide_eq_false (by omega)]; rfl) ?_
        tm_at "rzs"
        have e : spotB c r (some xs) = false := by
          unfold spotB
          split
          · rename_i e; cases e; exact absurd rfl e4
          · rfl
        rw [e] at k
        exact k _ (Same.refl _)
      obtain ⟨x, y, w, d, rfl⟩ := four e4
      refine iteF' (by rw [int_inj_dec, decide_eq_true (by rfl)]; rfl) ?_
      have kk : ∀ (b : Bool) H', Same H H' → b = spotB c r (some [x, y, w, d]) → Q (.bl b) H' := fun b H' s e => by rw [e]; exact k H' s
      tm_at "rzs"
      refine ⟨⟨_, sqT h⟩, fun D hD => lcTm (K := K) (ys := [x, y, w, d]) (fun v : V => v) (fun v => V.bl (isI v)) hD (sqT h) (Nat.le_of_ble_eq_true rfl) (fun i z H4 Kt Kf hy s4 kt => ?_) (fun H4 s4 g4 => ?_)⟩
      · obtain ⟨t, h7⟩ := hx z (List.mem_of_getElem? hy)
        have h7' := h7.mono s4
        tm_at "rzs"
        exact kt _ (Same.refl _)
      tm_at "rzs"
      refine ⟨D, [isI x, isI y, isI w, isI d], rfl, sqL g4, ?_⟩
      have h4 := s4 _ _ h
      refine ⟨_, rfl, ?_⟩
      by_cases ea : (isI x && (isI y && (isI w && isI d))) = true
      rotate_left
      · have ea : (isI x && (isI y && (isI w && isI d))) = false := by simpa using ea
        refine iteT' (by show (!(isI x && (isI y && (isI w && (isI d && true))))) = true; rw [Bool.and_true, ea]; rfl) ?_
        tm_at "rzs"
        exact kk _ _ s4 (by rw [spot_no ea])
      refine iteF' (by show (!(isI x && (isI y && (isI w && (isI d && true))))) = false; rw [Bool.and_true, ea]; rfl) ?_
      rw [Bool.and_eq_true, Bool.and_eq_true, Bool.and_eq_true] at ea
      obtain ⟨X, rfl⟩ := isI_of ea.1
      obtain ⟨Y, rfl⟩ := isI_of ea.2.1
      obtain ⟨W, rfl⟩ := isI_of ea.2.2.1
      obtain ⟨D', rfl⟩ := isI_of ea.2.2.2
      tm_at "rzs"
      refine ⟨a, _, rfl, sqT h4, rfl, ?_⟩
      tm_at "rzs"
      have es : spotB c r (some [.int X, .int Y, .int W, .int D']) = ((decide (0 ≤ X) && (decide (1 ≤ W) && decide (X + W ≤ c))) && (decide (0 ≤ Y) && (decide (1 ≤ D') && decide (Y + D' ≤ r)))) := rfl
      rw [es] at kk
      by_cases e1 : 0 ≤ X
      rotate_left
      · rw [decide_eq_false e1]
        tm_at "rzs"
        exact kk _ _ s4 (by rw [decide_eq_false e1]; simp)
      rw [decide_eq_true e1] at *
      tm_at "rzs"
      by_cases e2 : 0 ≤ Y
      rotate_left
      · refine iteF' (decide_eq_false e2) ?_
        tm_at "rzs"
        exact kk _ _ s4 (by rw [decide_eq_false e2]; simp)
      refine iteT' (decide_eq_true e2) ?_
      tm_at "rzs"
      by_cases e3 : 0 < W
      rotate_left
      · refine iteF' (decide_eq_false e3) ?_
        tm_at "rzs"
        exact kk _ _ s4 (by rw [decide_eq_false (show ¬ 1 ≤ W by omega)]; simp)
      refine iteT' (decide_eq_true e3) ?_
      tm_at "rzs"
      by_cases e4 : 0 < D'
      rotate_left
      · refine iteF' (decide_eq_false e4) ?_
        tm_at "rzs"
        exact kk _ _ s4 (by rw [decide_eq_false (show ¬ 1 ≤ D' by omega)]; simp)
      refine iteT' (decide_eq_true e4) ?_
      tm_at "rzs"
      by_cases e5 : X + W ≤ c
      rotate_left
      · refine iteF' (decide_eq_false e5) ?_
        tm_at "rzs"
        exact kk _ _ s4 (by rw [decide_eq_false e5]; simp)
      refine iteT' (decide_eq_true e5) ?_
      tm_at "rzs"
      exact kk _ _ s4 (by rw [decide_eq_true e2, decide_eq_true (show 1 ≤ W by omega), decide_eq_true (show 1 ≤ D' by omega), decide_eq_true e5]; simp)
end
end My
namespace My
open PySem PySem.Spec PyProof.Rows L2
section
variable {P : Program} {w : World} {K : PySem.W.Frag} {mg : Str → Option Value} {base : Heap}
def sp_w_good : Sp := fun vs H Q _ => ∃ (p : Addr) (n : Nat) (a l : Int) (us : List V) (os : List (Option (List V))), vs = [.ref p, .int (n : Int), .int a, .int l] ∧ a ≤ 10 ∧ l ≤ 10 ∧ H p = some (.lst us) ∧ ThsAt H us os ∧ us.length ≤ 9 ∧
  ∀ H', Same H H' → Q (.bl (decide (os.length = n) && stB a l [] os)) H'
theorem ok_w_good (T : Tx K mg) : FnOk P w K mg base CX0 3 T.d_w_good.f T.d_w_good.fd ["_law_cells", "_law_count", "_law_across", "_law_low"] (sp_w_good) := by
  refine T.d_w_good.F.ok sc_w_good (fun vs H Q E h => ?_) (fun cdv A outer s H vs Q E hr h => ?_)
  · obtain ⟨p, n, a, l, us, os, rfl, _⟩ := h
    rfl
  · obtain ⟨p, n, a, l, us, os, rfl, a1, l1, hp, hu, ln, k⟩ := h
    refine ⟨_, (pss_cons (ps_if (PW.pt (pw_or (pt_cmpR op_ne (pe_callB (call_lenK (K := K) rfl) (by rfl) T.b_len (by decide +kernel) (pa_cons (pv 0) pa_nil)) (pv 1) (nomark _)) (pw_or1 (pt_not (pt_val (pe_callB (cr_allK (K := K) rfl rfl) (by rfl) T.b_all (by decide +kernel) (pa_cons (pe_lc (own := [("_law_plot", 11)]) (g := gName 11) (by rfl) sc_w_good.nd (pi_listK (K := K) rfl (pv 0)) (blkOk_by (own := [("_law_plot", 11)]) (N := N_w_good) (sc := defScope s_w_good) (by decide +kernel)) (fun _ _ _ _ _ => (pg_name (i := 11) sc_w_good.nd rfl (Or.inl rfl))) (fun _ _ _ _ _ => pts_nil) (fun _ _ _ _ _ => (pe_call (ok_w_stands T) (hr.mono (by decide)) (by rfl) T.d_w_stands.g T.d_w_stands.F.kp T.d_w_stands.b .nil pass0 (pa_cons (pv 11) (pa_cons (pv 2) (pa_cons (pv 3) pa_nil)))))) pa_nil)))))))
      (pss_one (ps_ret pe_bl))
      pss_nil)
      (pss_cons (ps_set (i := 4) sc_w_good.nd rfl (Or.inl rfl) pe_dnewTA)
      (pss_cons (ps_for PassesOwn.never (by rfl) (pi_listK (K := K) rfl (pv 0)) (pg_tup (by rfl) (pgs_cons (pg_name (i := 5) sc_w_good.nd rfl (Or.inl rfl)) (pgs_cons (pg_name (i := 6) sc_w_good.nd rfl (Or.inl rfl)) (pgs_cons (pg_name (i := 7) sc_w_good.nd rfl (Or.inl rfl)) (pgs_cons (pg_name (i := 8) sc_w_good.nd rfl (Or.inl rfl)) pgs_nil)))))
      (pss_one (ps_for PassesOwn.never (by rfl) (pi_range1 (by rfl) T.b_range (pa_cons (pv 7) pa_nil)) (pg_name (i := 9) sc_w_good.nd rfl (Or.inl rfl))
      (pss_one (ps_for PassesOwn.never (by rfl) (pi_range1 (by rfl) T.b_range (pa_cons (pv 8) pa_nil)) (pg_name (i := 10) sc_w_good.nd rfl (Or.inl rfl))
      (pss_cons (ps_if (pt_cmp (pc_din (hu_of hr) (pe_tupA (pa_cons (pe_op op_add (pv 5) (pv 9)) (pa_cons (pe_op op_add (pv 6) (pv 10)) pa_nil))) (pv 4)))
      (pss_one (ps_ret pe_bl))
      pss_nil)
      (pss_one (ps_dput (hu_of hr) (pv 4) (pe_tupA (pa_cons (pe_op op_add (pv 5) (pv 9)) (pa_cons (pe_op op_add (pv 6) (pv 10)) pa_nil))) pe_bl rfl))))))))
      (pss_one (ps_ret pe_bl))))), ?_⟩
    tm_at "rzs"
    have lo := hu.1
    have kk : ∀ (b : Bool) H', Same H H' → b = (decide (os.length = n) && stB a l [] os) → Q (.bl b) H' := fun b H' s e => by rw [e]; exact k H' s
    by_cases e0 : os.length = n
    rotate_left
    · refine iteT' (by rw [int_inj_dec, decide_eq_false (by omega)]; rfl) ?_
      tm_at "rzs"
      exact kk _ _ (Same.refl _) (by rw [decide_eq_false e0]; rfl)
    refine iteF' (by rw [int_inj_dec, decide_eq_true (by omega)]; rfl) ?_
    tm_at "rzs"
    refine ⟨⟨_, sqL hp⟩, fun D hD => lcLx (K := K) (xs := us) (fun i => .bl (spotB a l (os.getD i none))) hD (sqL hp) (by omega) (fun i z H2 Kt Kf hx s2 kq => ?_) (fun H2 s2 g2 => ?_)⟩
    · obtain ⟨q, hq⟩ : ∃ q, os[i]? = some q := ⟨_, List.getElem?_eq_getElem (by have := (List.getElem?_eq_some_iff.mp hx).1; omega)⟩
      have hz := (hu.2 i z q hx hq).same s2
      have eq : os.getD i none = q := by rw [List.getD_eq_getElem?_getD, hq]; rfl
      rw [eq] at kq
      tm_at "rzs"
      refine ⟨z, q, a, l, rfl, hz, fun H3 s3 => ?_⟩
      tm_at "rzs"
      exact kq _ s3
    rw [bls _ fun i => spotB a l (os.getD i none)] at g2
    tm_at "rzs"
    refine ⟨D, _, rfl, sqL g2, ?_⟩
    rw [lo, all_getD os]
    refine ⟨_, rfl, ?_⟩
    by_cases eall : os.all (spotB a l) = true
    rotate_left
    · have eall : os.all (spotB a l) = false := by simpa using eall
      refine iteT' (by rw [eall]; rfl) ?_
      tm_at "rzs"
      refine kk _ _ s2 ?_
      cases e : stB a l [] os with
      | false => simp
      | true => rw [List.all_eq_true.mpr (stB_take os [] e)] at eall; cases eall
    refine iteF' (by rw [eall]; rfl) ?_
    obtain ⟨qs, rfl, hqs⟩ := all_sp4 (List.all_eq_true.mp eall)
    have lq : qs.length = us.length := by rw [List.length_map] at lo; exact lo.symm
    have stbad : ∀ p q, p < qs.length → qs[p]? = some q → (∃ q' ∈ qs.take p, ∃ a b, InS q a b ∧ InS q' a b) → stB a l [] (qs.map sp4) = false := fun p q hp hq ⟨q', m', A, B, i1, i2⟩ => by
      cases e : stB a l [] (qs.map sp4) with
      | false => rfl
      | true =>
        have h1 := (stB_step (qs.map sp4) []).mp e p (sp4 q) (by rw [List.getElem?_map, hq]; rfl)
        rw [List.nil_append, Bool.and_eq_true] at h1
        have h2 := List.all_eq_true.mp h1.2 (sp4 q') (by rw [← List.map_take]; exact List.mem_map_of_mem m')
        have m1 := hqs q (List.mem_of_getElem? hq)
        have m2 := hqs q' (List.mem_of_mem_take m')
        exact absurd i2 ((apart_iff m1.2.1 m1.2.2.2.2.1 m2.2.1 m2.2.2.2.2.1).mp h2 A B i1)
    tm_at "rzs"
    intro g H3 f3 s3 g3
    have s03 := s2.trans s3
    have fg : H g = none := by
      cases z : H g with
      | none => rfl
      | some o => rw [s2 _ _ z] at f3; cases f3
    have hp3 := s03 _ _ hp
    tm_at "rzs"
    refine ⟨⟨_, sqL hp3⟩, for_list (K := K) (xs := us) (fun i σ H' => ∃ (v5 v6 v7 v8 v9 v10 v11 : Option V) (kv : List (List Key × V)), σ = [some (.ref p), some (.int (n : Int)), some (.int a), some (.int l), some (.ref g), v5, v6, v7, v8, v9, v10, v11] ∧ Same H H' ∧ H' g = some (.dT kv) ∧ kv.length ≤ 100 * i ∧
        KeysI kv (fun A B => ∃ q ∈ qs.take i, InS q A B) ∧ ∀ j q, j < i → qs[j]? = some q → ∀ q' ∈ qs.take j, ∀ A B, InS q A B → ¬ InS q' A B)
      ⟨_, _, _, _, _, _, _, [], rfl, s03, g3, by simp, fun A B => ⟨fun h => (by cases h), fun ⟨q, m, _⟩ => (by simp at m)⟩, fun j q h => absurd h (Nat.not_lt_zero j)⟩ (fun i σ H' _ ⟨_, _, _, _, _, _, _, _, _, b, _⟩ => sqL (b _ _ hp)) ?_ ?_⟩
    · rintro i z σ H4 hz ⟨v5, v6, v7, v8, v9, v10, v11, kv, rfl, s4, g4, l4, k4, ap4⟩
      have hi := (List.getElem?_eq_some_iff.mp hz).1
      obtain ⟨q, hq⟩ : ∃ q, qs[i]? = some q := ⟨_, List.getElem?_eq_getElem (by omega)⟩
      have hqz := (hu.2 i z (sp4 q) hz (by rw [List.getElem?_map, hq]; rfl)).same s4
      obtain ⟨r, rfl, gr⟩ := hqz.four
      obtain ⟨q0, qw, qc, q1, qd, qr⟩ := hqs q (List.mem_of_getElem? hq)
      obtain ⟨X, Y, W, D'⟩ := q
      dsimp only at q0 qw qc q1 qd qr gr
      refine ⟨r, _, rfl, sqT gr, rfl, ?_⟩
      refine ⟨_, _, rfl, ?_⟩
      refine ⟨_, _, rfl, ?_⟩
      refine ⟨_, _, rfl, ?_⟩
      refine ⟨_, _, rfl, ?_⟩
      refine ⟨rfl, ?_⟩
      tm_at "rzs"
      have mq : (X, Y, W, D') ∈ qs := List.mem_of_getElem? hq
      refine for_range (lo := 0) (n := W.toNat) (fun j σ H' => ∃ (v9 v10 v11 : Option V) (kv : List (List Key × V)), σ = [some (.ref p), some (.int (n : Int)), some (.int a), some (.int l), some (.ref g), some (.int X), some (.int Y), some (.int W), some (.int D'), v9, v10, v11] ∧ Same H H' ∧ H' g = some (.dT kv) ∧ kv.length ≤ 100 * i + 10 * j ∧
          KeysI kv (fun A B => (∃ q ∈ qs.take i, InS q A B) ∨ (X ≤ A ∧ A < X + j ∧ Y ≤ B ∧ B < Y + D')) ∧ ∀ q' ∈ qs.take i, ∀ A B, X ≤ A → A < X + j → Y ≤ B → B < Y + D' → ¬ InS q' A B)
        ⟨_, _, _, kv, rfl, s4, g4, by omega, k4.imp fun A B => ⟨.inl, fun h => h.elim id fun h => by omega⟩, fun q' m A B h1 h2 => by omega⟩ ?_ ?_
      · rintro j σ H5 hj ⟨v9, v10, v11, kv5, rfl, s5, g5, l5, k5, n5⟩
        dsimp only [gName]
        tm_at "rzs"
        refine for_range (lo := 0) (n := D'.toNat) (fun k σ H' => ∃ (v10 v11 : Option V) (kv : List (List Key × V)), σ = [some (.ref p), some (.int (n : Int)), some (.int a), some (.int l), some (.ref g), some (.int X), some (.int Y), some (.int W), some (.int D'), some (.int (0 + (j : Int))), v10, v11] ∧ Same H H' ∧ H' g = some (.dT kv) ∧ kv.length ≤ 100 * i + 10 * j + k ∧
            KeysI kv (fun A B => ((∃ q ∈ qs.take i, InS q A B) ∨ (X ≤ A ∧ A < X + j ∧ Y ≤ B ∧ B < Y + D')) ∨ (A = X + j ∧ Y ≤ B ∧ B < Y + k)) ∧ ∀ q' ∈ qs.take i, ∀ A B, A = X + j → Y ≤ B → B < Y + k → ¬ InS q' A B)
          ⟨_, _, kv5, rfl, s5, g5, by omega, k5.imp fun A B => ⟨.inl, fun h => h.elim id fun h => by omega⟩, fun q' m A B h1 h2 => by omega⟩ ?_ ?_
        · rintro k1 σ H6 hk ⟨v10, v11, kv6, rfl, s6, g6, l6, k6, n6⟩
          dsimp only [gName]
          tm_at "rzs"
          intro t7 H7 f7 s7 g7
          have g7' := s7 _ _ g6
          tm_at "rzs"
          refine ⟨g, _, rfl, DGet.t (k := [.inl (X + (0 + (j : Int))), .inl (Y + (0 + (k1 : Int)))]) g7' g7, ?_⟩
          tm_at "rzs"
          have hkey := k6 (X + (0 + (j : Int))) (Y + (0 + (k1 : Int)))
          refine ite2 (fun e => ?_) (fun e => ?_)
          · tm_at "rzs"
            refine kk _ _ (s6.trans s7) ?_
            obtain ⟨q', m', iq⟩ : ∃ q' ∈ qs.take i, InS q' (X + (0 + (j : Int))) (Y + (0 + (k1 : Int))) := by
              rcases hkey.mp e with (h | h) | h
              · exact h
              · omega
              · omega
            rw [stbad i _ (by omega) hq ⟨q', m', _, _, ⟨by show X ≤ _; omega, by show _ < X + W; omega, by show Y ≤ _; omega, by show _ < Y + D'; omega⟩, iq⟩]
            simp
          · tm_at "rzs"
            intro t8 H8 f8 s8 g8
            have hno : ∀ q' ∈ qs.take i, ¬ InS q' (X + (0 + (j : Int))) (Y + (0 + (k1 : Int))) := fun q' m' iq => e (hkey.mpr (.inl (.inl ⟨q', m', iq⟩)))
            refine ⟨g, _, rfl, DPut.t (k := [.inl (X + (0 + (j : Int))), .inl (Y + (0 + (k1 : Int)))]) (s8 _ _ g7') g8 (small1000' (by omega)), ?_⟩
            have lp := length_putK kv6 [.inl (X + (0 + (j : Int))), .inl (Y + (0 + (k1 : Int)))] (V.bl true)
            refine ⟨_, _, _, rfl, Same.mut' (s6.trans (s7.trans s8)) But.refl.upd fg, upd_same, by omega, (k6.put _ _ _).imp fun A B => ?_, fun q' m A B h1 h2 h3 => ?_⟩
            · constructor
              · rintro ((h | h) | h)
                · exact .inl h
                · exact .inr (by omega)
                · exact .inr (by omega)
              · rintro (h | h)
                · exact .inl (.inl h)
                · by_cases c : B < Y + k1
                  · exact .inl (.inr (by omega))
                  · exact .inr (by omega)
            · by_cases c : B < Y + k1
              · exact n6 q' m A B h1 h2 c
              · have e1 : A = X + (0 + (j : Int)) := by omega
                have e2 : B = Y + (0 + (k1 : Int)) := by omega
                rw [e1, e2]
                exact hno q' m
        · rintro σ H6 ⟨v10, v11, kv6, rfl, s6, g6, l6, k6, n6⟩
          refine ⟨_, _, _, kv6, rfl, s6, g6, by omega, k6.imp fun A B => ?_, fun q' m A B h1 h2 h3 h4 => ?_⟩
          · constructor
            · rintro ((h | h) | h)
              · exact .inl h
              · exact .inr (by omega)
              · exact .inr (by omega)
            · rintro (h | h)
              · exact .inl (.inl h)
              · by_cases c : A < X + j
                · exact .inl (.inr (by omega))
                · exact .inr (by omega)
          · by_cases c : A < X + j
            · exact n5 q' m A B h1 c h3 h4
            · exact n6 q' m A B (by omega) h3 (by omega)
      · rintro σ H5 ⟨v9, v10, v11, kv5, rfl, s5, g5, l5, k5, n5⟩
        have et : qs.take (i + 1) = qs.take i ++ [(X, Y, W, D')] := by rw [List.take_succ, hq]; rfl
        refine ⟨_, _, _, _, _, _, _, kv5, rfl, s5, g5, by omega, k5.imp fun A B => ?_, fun j q hj hjq => ?_⟩
        · rw [et]
          constructor
          · rintro (⟨q, m, h⟩ | h)
            · exact ⟨q, List.mem_append_left _ m, h⟩
            · exact ⟨(X, Y, W, D'), List.mem_append_right _ (List.mem_singleton.mpr rfl), ⟨by show X ≤ _; omega, by show _ < X + W; omega, by show Y ≤ _; omega, by show _ < Y + D'; omega⟩⟩
          · rintro ⟨q, m, h⟩
            rcases List.mem_append.mp m with m | m
            · exact .inl ⟨q, m, h⟩
            · rw [List.mem_singleton.mp m] at h
              obtain ⟨h1, h2, h3, h4⟩ := h
              dsimp only at h1 h2 h3 h4
              exact .inr (by omega)
        · rcases Nat.lt_or_ge j i with h | h
          · exact ap4 j q h hjq
          · obtain rfl : j = i := by omega
            obtain rfl : q = (X, Y, W, D') := Option.some.inj (hjq.symm.trans hq)
            intro q' m A B iq
            obtain ⟨h1, h2, h3, h4⟩ := iq
            dsimp only at h1 h2 h3 h4
            exact n5 q' m A B (by omega) (by omega) (by omega) (by omega)
    · rintro σ H4 ⟨v5, v6, v7, v8, v9, v10, v11, kv, rfl, s4, g4, l4, k4, ap4⟩
      tm_at "rzs"
      refine kk _ _ s4 ?_
      have e : stB a l [] (qs.map sp4) = true := (stB_step (qs.map sp4) []).mpr fun j o ho => by
        rw [List.getElem?_map] at ho
        obtain ⟨q, hq, rfl⟩ := Option.map_eq_some_iff.mp ho
        have hj := (List.getElem?_eq_some_iff.mp hq).1
        rw [List.nil_append, Bool.and_eq_true]
        refine ⟨List.all_eq_true.mp eall _ (List.mem_of_getElem? (by rw [List.getElem?_map, hq]; rfl)), List.all_eq_true.mpr fun o' m' => ?_⟩
        rw [← List.map_take] at m'
        obtain ⟨q', mm', rfl⟩ := List.mem_map.mp m'
        have m1 := hqs q (List.mem_of_getElem? hq)
        have m2 := hqs q' (List.mem_of_mem_take mm')
        exact (apart_iff m1.2.1 m1.2.2.2.2.1 m2.2.1 m2.2.2.2.2.1).mpr (ap4 j q (by omega) hq q' mm')
      rw [e, decide_eq_true e0]
      rfl
end
end My
namespace My
open PySem PySem.Spec PyProof.Rows L2
section
variable {P : Program} {w : World} {K : PySem.W.Frag} {mg : Str → Option Value} {base : Heap}
def sp_w_track : Sp := fun vs H Q _ => ∃ (s : Addr), vs = [.ref s] ∧ Src H s ∧ ∀ (v : V) (t : Tk) H', Dr s H H' → TkAt H' v t → t.ok → Q v H'
theorem ok_w_track (T : Tx K mg) : FnOk P w K mg base CX0 3 T.d_w_track.f T.d_w_track.fd ["_law_source_here"] (sp_w_track) := by
  refine T.d_w_track.F.ok sc_w_track (fun vs H Q E h => ?_) (fun cdv A outer s H vs Q E hr h => ?_)
  · obtain ⟨s, rfl, _⟩ := h
    rfl
  · obtain ⟨s, rfl, hs, k⟩ := h
    refine ⟨_, (pss_one (ps_ret (pe_ix (ix_listK (K := K) rfl) (pe_lstA (pa_cons (pe_call (ok_w_next T) (hr.mono (by decide)) (by rfl) T.d_w_next.g T.d_w_next.F.kp T.d_w_next.b .nil pass0 (pa_cons (pv 0) (pa_cons pe_int pa_nil))) (pa_cons pe_str (pa_cons (pe_tupA (pa_cons pe_str (pa_cons (pe_op op_add pe_int (pe_call (ok_w_next T) (hr.mono (by decide)) (by rfl) T.d_w_next.g T.d_w_next.F.kp T.d_w_next.b .nil pass0 (pa_cons (pv 0) (pa_cons pe_int pa_nil)))) pa_nil))) pa_nil)))) (pe_call (ok_w_next T) (hr.mono (by decide)) (by rfl) T.d_w_next.g T.d_w_next.F.kp T.d_w_next.b .nil pass0 (pa_cons (pv 0) (pa_cons pe_int pa_nil))) (fun _ _ => rfl)))), ?_⟩
    tm_at "rzs"
    intro n H1 d1 l1 u1
    tm_at "rzs"
    intro m H2 d2 l2 u2
    tm_at "rzs"
    intro p H3 f3 s3 g3
    refine ⟨Nat.le_of_ble_eq_true rfl, ?_⟩
    intro q H4 f4 s4 g4
    have d4 := (d1.trans d2).same (s3.trans s4)
    have hs4 := d4.s
    have nq : q ≠ s := ((d1.trans d2).same s3).s.ne f4
    have np : p ≠ s := (d1.trans d2).s.ne f3
    tm_at "rzs"
    intro j H5 d5 l5 u5
    have g5 := d5.app nq g4
    have gp := d5.app np (s4 _ _ g3)
    have d05 := d4.trans d5
    obtain ⟨x, hx, t, ht, ok⟩ := pick3 (P := fun v => ∃ t, TkAt H5 v t ∧ t.ok) l5 u5 ⟨.cells n, rfl, l1⟩ ⟨.fit, rfl, True.intro⟩ ⟨.share (1 + m), ⟨p, rfl, gp⟩, by show 1 ≤ 1 + m; omega⟩
    refine ⟨_, _, _, _, rfl, rfl, sqL g5, hx, ?_⟩
    exact k x t H5 d05 ht ok
end
end My
namespace My
open PySem PySem.Spec PyProof.Rows L2
section
variable {P : Program} {w : World} {K : PySem.W.Frag} {mg : Str → Option Value} {base : Heap}
def sp_w_made (K : PySem.W.Frag) (C W : Addr) : Sp := fun vs H Q E => ∃ (b a c d : Addr) (ws us xs ys : List V) (os : List (Option (List V))) (ts us' : List Tk), vs = [.ref b, .ref a, .ref c, .ref d] ∧
  H b = some (.lst ws) ∧ ws.length ≤ 1000 ∧ (∀ w ∈ ws, InsC W H w) ∧ H a = some (.lst us) ∧ ThsAt H us os ∧ os.length ≤ 1000 ∧
  H c = some (.lst xs) ∧ TksAt H xs ts ∧ (∀ t ∈ ts, t.ok) ∧ ts ≠ [] ∧ ts.length ≤ 1000 ∧ H d = some (.lst ys) ∧ TksAt H ys us' ∧ (∀ t ∈ us', t.ok) ∧ us' ≠ [] ∧ us'.length ≤ 1000 ∧
  ∀ H', Same H H' → ∀ r, H r = none → ((decide (os.length = ws.length) && stB ts.length us'.length [] os) = false → H' r = some (.tup [.str (Str.ofString "refused"), .bl true]) → Q (.ref r) H') ∧
    ((decide (os.length = ws.length) && stB ts.length us'.length [] os) = true → ∀ x dx p q fs, H x = none → H' x = some (.ins C dx fs) → fs.lookup (Str.ofString "columns") = some (V.ref p) → fs.lookup (Str.ofString "spots") = some (V.ref q) → H' p = some (.tup xs) → H' q = some (.tup us) →
      H' r = some (.tup [.str (Str.ofString "made"), .ref x]) → Q (.ref r) H')
theorem ok_w_made (T : Tx K mg) : FnOk P w K mg base CX0 9 T.d_w_made.f T.d_w_made.fd ["_law_boxes", "_law_cells", "_law_tops", "_law_sides"] (sp_w_made K T.c_Grid.C T.c_Words.C) := by
  refine T.d_w_made.F.ok sc_w_made (fun vs H Q E h => ?_) (fun cdv A outer s H vs Q E hr h => ?_)
  · obtain ⟨b, a, c, d, ws, us, xs, ys, os, ts, us', rfl, _⟩ := h
    rfl
  · obtain ⟨b, a, c, d, ws, us, xs, ys, os, ts, us', rfl, hb, hbn, hw, ha, ho, hon, hc, hts, okt, nt, ltn, hd, hus, oku, nu, lun, k⟩ := h
    refine ⟨_, (pss_cons (L2N.ps_try_as (i := 5) rfl rfl sc_w_made.nd rfl rfl ⟨rfl, by decide, Or.inl T.e_NestError.g⟩ takes0N (fun W pn xe tk po =>
      (pss_one (ps_set (i := 4) sc_w_made.nd rfl (Or.inl rfl) (pe_makeKS (n := 3) T.d_Grid_init.mks (ok_Grid_init T) (hr.mono (by decide)) (by rfl) T.c_Grid.g (Classical.choose_spec (kb_Grid_init_4_columns_rows T)) (fun σ => L2N.passAt tk σ) (pa_cons pe_str (pa_cons (pv 0) (pa_cons (pv 1) pa_nil))) (pk_cons (pv 2) (pk_cons (pv 3) pk_nil))))))
      (fun a oe cls d pn hz hf =>
      (pss_cons (ps_set (i := 6) sc_w_made.nd rfl (Or.inl rfl) (pe_lstA (pa_cons (pe_callB (call_isX hz.zc hf) (by rfl) T.b_isinstance (by decide +kernel) (pa_cons (pv 5) (pa_cons (pe_glob (v := .ref T.e_NoBox.C) (by rfl) T.e_NoBox.g rfl) pa_nil))) (pa_cons (pe_callB (call_isX hz.zc hf) (by rfl) T.b_isinstance (by decide +kernel) (pa_cons (pv 5) (pa_cons (pe_glob (v := .ref T.e_NoTrack.C) (by rfl) T.e_NoTrack.g rfl) pa_nil))) (pa_cons (pe_callB (call_isX hz.zc hf) (by rfl) T.b_isinstance (by decide +kernel) (pa_cons (pv 5) (pa_cons (pe_glob (v := .ref T.e_NoNumber.C) (by rfl) T.e_NoNumber.g rfl) pa_nil))) (pa_cons (pe_callB (call_isX hz.zc hf) (by rfl) T.b_isinstance (by decide +kernel) (pa_cons (pv 5) (pa_cons (pe_glob (v := .ref T.e_NoStyle.C) (by rfl) T.e_NoStyle.g rfl) pa_nil))) pa_nil))))))
      (pss_one (ps_ret (pe_tupA (pa_cons pe_str (pa_cons (pe_and (pe_callB (call_isX hz.zc hf) (by rfl) T.b_isinstance (by decide +kernel) (pa_cons (pv 5) (pa_cons (pe_glob (v := .ref T.e_NoSpot.C) (by rfl) T.e_NoSpot.g rfl) pa_nil))) (pe_and (pe_callB (call_isX hz.zc hf) (by rfl) T.b_isinstance (by decide +kernel) (pa_cons (pv 5) (pa_cons (pe_bltn (v := .ty "ValueError") (by rfl) T.b_ValueError (by decide +kernel) rfl) pa_nil))) (pe_one (pe_not (pe_callB (cr_anyHK (K := K) (hot_suite hz hf) rfl) (by rfl) T.b_any (by decide +kernel) (pa_cons (pv 6) pa_nil)))))) pa_nil))))))))
      (pss_one (ps_ret (pe_tupA (pa_cons pe_str (pa_cons (pv 4) pa_nil)))))), ?_⟩
    tm_at "rzs"
    intro x dx fx fdx n
    have sm := make_same (o := HO.own x) (o' := HO.ins T.c_Grid.C dx []) fx fdx n
    refine ⟨H, x, dx, b, a, c, d, [103], ws, us, xs, ys, os, ts, us', rfl, upd_same, fx, sm, ⟨by decide, by decide, by decide⟩, hb, hbn, hw, ha, ho, hon, hc, hts, okt, nt, ltn, hd, hus, oku, nu, lun, fun H1 b1 => ⟨fun e ⟨p, q, fs, g1, l1, l2, g2, g3⟩ => ⟨rfl, ?_⟩, fun e => ?_⟩⟩
    · have s1 : Same H H1 := Same.mut' sm b1 fx
      tm_at "rzs"
      intro r H2 f2 s2 g4
      have fr : H r = none := by
        cases z : H r with
        | none => rfl
        | some o => rw [s1 _ _ z] at f2; cases f2
      exact (k H2 (s1.trans s2) r fr).2 e x dx p q fs fx (s2 _ _ g1) l1 l2 (s2 _ _ g2) (s2 _ _ g3) g4
    · have s1 : Same H H1 := Same.mut' sm b1 fx
      refine ⟨true, T.e_NestError.exm T.r_NoSpot, fun _ ae hae => ?_, fun q => Bool.noConfusion q⟩
      tm_at "rds"
      refine ⟨_, _, _, _, rfl, rfl, T.e_NoSpot.E, rfl, fun u r => r, T.e_NoSpot.kitC T.e_NoBox T.s_NoSpot T.i_NoBox, ?_⟩
      tm_at "rzs"
      refine ⟨_, _, _, _, rfl, rfl, T.e_NoSpot.E, rfl, fun u r => r, T.e_NoSpot.kitC T.e_NoTrack T.s_NoSpot T.i_NoTrack, ?_⟩
      tm_at "rzs"
      refine ⟨_, _, _, _, rfl, rfl, T.e_NoSpot.E, rfl, fun u r => r, T.e_NoSpot.kitC T.e_NoNumber T.s_NoSpot T.i_NoNumber, ?_⟩
      tm_at "rzs"
      refine ⟨_, _, _, _, rfl, rfl, T.e_NoSpot.E, rfl, fun u r => r, T.e_NoSpot.kitC T.e_NoStyle T.s_NoSpot T.i_NoStyle, ?_⟩
      tm_at "rzs"
      intro p2 H2 f2 s2 g2
      tm_at "rzs"
      refine ⟨_, _, _, _, rfl, rfl, T.e_NoSpot.E, rfl, fun u r => r, T.e_NoSpot.kit T.e_NoSpot T.s_NoSpot T.s_NoSpot, ?_⟩
      tm_at "rzs"
      refine ⟨_, _, _, _, rfl, rfl, T.e_NoSpot.E, rfl, fun u r => r, T.e_NoSpot.kitT T.v_NoSpot, ?_⟩
      tm_at "rzs"
      refine ⟨p2, [false, false, false, false], rfl, sqL g2, ?_⟩
      tm_at "rzs"
      intro r H3 f3 s3 g3
      have s12 := s1.trans s2
      have fr : H r = none := by
        cases z : H r with
        | none => rfl
        | some o => rw [s12 _ _ z] at f3; cases f3
      exact (k H3 (s12.trans s3) r fr).1 e g3
end
end My
namespace My
open PySem PySem.Spec PyProof.Rows L2
section
variable {P : Program} {w : World} {K : PySem.W.Frag} {mg : Str → Option Value} {base : Heap}
def sp_w_right : Sp := fun vs H Q _ => ∃ (s p : Addr) (n : Int) (a l : Int) (us : List V), vs = [.ref s, .ref p, .int n, .int a, .int l] ∧ Src H s ∧ p ≠ s ∧ 0 ≤ n ∧ n ≤ 8 ∧ 1 ≤ a ∧ a ≤ 10 ∧ 1 ≤ l ∧ l ≤ 10 ∧ H p = some (.lst us) ∧ Its1 H us ∧ us.length ≤ 9 ∧
  ∀ H', Dr s H H' → Q (.bl true) H'
theorem ok_w_right (T : Tx K mg) : FnOk P w K mg base CX0 10 T.d_w_right.f T.d_w_right.fd ["_law_source_here", "_law_cells", "_law_count", "_law_across", "_law_low"] (sp_w_right) := by
  refine T.d_w_right.F.ok sc_w_right (fun vs H Q E h => ?_) (fun cdv A outer s H vs Q E hr h => ?_)
  · obtain ⟨s, p, n, a, l, us, rfl, _⟩ := h
    rfl
  · obtain ⟨s, p, n, a, l, us, rfl, hs, np, n0, hn, a0, a1, l0, l1, hp, hu, ln, k⟩ := h
    refine ⟨_, (pss_cons (ps_setLc (i := 5) (own := [("_law_k", 11)]) (g := gName 11) (by rfl) sc_w_right.nd rfl rfl (sw_true rfl rfl rfl (by decide +kernel)) (pi_range1 (by rfl) T.b_range (pa_cons (pv 3) pa_nil)) (blkOk_by (own := [("_law_k", 11)]) (N := N_w_right) (sc := defScope s_w_right) (by decide +kernel)) (fun _ _ _ _ _ => (pg_name (i := 11) sc_w_right.nd rfl (Or.inl rfl))) (fun _ _ _ _ _ => pts_nil) (fun _ _ _ _ _ => (pe_call (ok_w_track T) (hr.mono (by decide)) (by rfl) T.d_w_track.g T.d_w_track.F.kp T.d_w_track.b .nil pass0 (pa_cons (pv 0) pa_nil))))
      (pss_cons (ps_setLc (i := 6) (own := [("_law_k", 11)]) (g := gName 11) (by rfl) sc_w_right.nd rfl rfl (sw_true rfl rfl rfl (by decide +kernel)) (pi_range1 (by rfl) T.b_range (pa_cons (pv 4) pa_nil)) (blkOk_by (own := [("_law_k", 11)]) (N := N_w_right) (sc := defScope s_w_right) (by decide +kernel)) (fun _ _ _ _ _ => (pg_name (i := 11) sc_w_right.nd rfl (Or.inl rfl))) (fun _ _ _ _ _ => pts_nil) (fun _ _ _ _ _ => (pe_call (ok_w_track T) (hr.mono (by decide)) (by rfl) T.d_w_track.g T.d_w_track.F.kp T.d_w_track.b .nil pass0 (pa_cons (pv 0) pa_nil))))
      (pss_cons (ps_setLc (i := 7) (own := [("_law_k", 11)]) (g := gName 11) (by rfl) sc_w_right.nd rfl rfl (sw_true rfl rfl rfl (by decide +kernel)) (pi_range1 (by rfl) T.b_range (pa_cons (pv 2) pa_nil)) (blkOk_by (own := [("_law_k", 11)]) (N := N_w_right) (sc := defScope s_w_right) (by decide +kernel)) (fun _ _ _ _ _ => (pg_name (i := 11) sc_w_right.nd rfl (Or.inl rfl))) (fun _ _ _ _ _ => pts_nil) (fun _ _ _ _ _ => (pe_make T.d_Words_init.mks (ok_Words_init T) (hr.mono (by decide)) (by rfl) T.c_Words.g (Classical.choose_spec (bx_Words_init T)).2 (Classical.choose_spec (bx_Words_init T)).1 pass0 (pa_cons (pe_ix ix_str pe_str (pv 11) (fun _ _ => rfl)) (pa_cons pe_str pa_nil)))))
      (pss_cons (ps_set (i := 8) sc_w_right.nd rfl (Or.inl rfl) (pe_callTy (call_listK (K := K) rfl) (by rfl) T.b_list (by decide +kernel) (pa_cons (pv 1) pa_nil)))
      (pss_cons (ps_asg (pe_call (ok_w_made T) (hr.mono (by decide)) (by rfl) T.d_w_made.g T.d_w_made.F.kp T.d_w_made.b .nil pass0 (pa_cons (pv 7) (pa_cons (pv 8) (pa_cons (pv 5) (pa_cons (pv 6) pa_nil))))) (pg_tup (by rfl) (pgs_cons (pg_name (i := 9) sc_w_right.nd rfl (Or.inl rfl)) (pgs_cons (pg_name (i := 10) sc_w_right.nd rfl (Or.inl rfl)) pgs_nil))))
      (pss_cons (ps_if (pt_cmpR (op_neDK (K := K) hr.units rfl) (pv 8) (pv 1) (nomark _))
      (pss_one (ps_ret pe_bl))
      pss_nil)
      (pss_cons (ps_if (pt_not (pt_val (pe_call (ok_w_good T) (hr.mono (by decide)) (by rfl) T.d_w_good.g T.d_w_good.F.kp T.d_w_good.b .nil pass0 (pa_cons (pv 1) (pa_cons (pv 2) (pa_cons (pv 3) (pa_cons (pv 4) pa_nil)))))))
      (pss_one (ps_ret (pe_and (pe_cmpR op_eq (pv 9) pe_str (nomark _)) (pe_one (pv 10)))))
      pss_nil)
      (pss_cons (ps_expr (pe_bm PySem.F.plainAttrs_list PySem.F.slot_list_append PySem.F.type_list_append mt_appendA (pv 8) (pa_cons (pe_tupA (pa_cons pe_int (pa_cons pe_int (pa_cons pe_int (pa_cons pe_int pa_nil))))) pa_nil)))
      (pss_cons (ps_expr (pe_bm0 PySem.F.plainAttrs_list PySem.F.slot_list_clear PySem.F.type_list_clear mt_clearA (pv 5)))
      (pss_cons (ps_if (PW.pt (pw_or (pt_cmpR op_ne (pv 9) pe_str (nomark _)) (pw_or (pt_cmpR (op_neDK (K := K) hr.units rfl) (pe_fldK (K := K) rfl (pv 10) rfl) (pe_callTy (call_tupLK (K := K) rfl) (by rfl) T.b_tuple (by decide +kernel) (pa_cons (pv 1) pa_nil)) (nomark _)) (pw_or1 (pt_cmpR op_ne (pe_callB (call_lenK (K := K) rfl) (by rfl) T.b_len (by decide +kernel) (pa_cons (pe_fldK (K := K) rfl (pv 10) rfl) pa_nil)) (pv 3) (nomark _))))))
      (pss_one (ps_ret pe_bl))
      pss_nil)
      (pss_one (ps_ret (pe_callB (cr_allK (K := K) rfl rfl) (by rfl) T.b_all (by decide +kernel) (pa_cons (pe_lc (own := [("_law_plot", 12)]) (g := gName 12) (by rfl) sc_w_right.nd (pi_tupK (K := K) rfl (pe_fldK (K := K) rfl (pv 10) rfl)) (blkOk_by (own := [("_law_plot", 12)]) (N := N_w_right) (sc := defScope s_w_right) (by decide +kernel)) (fun _ _ _ _ _ => (pg_name (i := 12) sc_w_right.nd rfl (Or.inl rfl))) (fun _ _ _ _ _ => pts_nil) (fun _ _ _ _ _ => (pe_call (ok_w_stands T) (hr.mono (by decide)) (by rfl) T.d_w_stands.g T.d_w_stands.F.kp T.d_w_stands.b .nil pass0 (pa_cons (pv 12) (pa_cons (pv 3) (pa_cons (pv 4) pa_nil)))))) pa_nil)))))))))))))), ?_⟩
    tm_at "rzs"
    refine fun D hD => lcRo (s := s) (n := a.toNat) (fun _ v H => ∃ t : Tk, TkAt H v t ∧ t.ok) (fun _ v H H' acc ⟨t, h, o⟩ e b => ⟨t, h.but e b, o⟩) (fun _ v H H' ⟨t, h, o⟩ e d => ⟨t, h.dr e d, o⟩) hs hD (by omega) (fun i H1 Kt Kf acc hi d1 e1 kt => ?_) (fun xs H1 d1 lx rx nD gD => ?_)
    · have hs1 := d1.s
      tm_at "rzs"
      exact fun v t H4 d4 ht ok => kt v H4 d4 ⟨t, ht, ok⟩
    obtain ⟨ts, hts, okt⟩ := tks_of (us := xs) (H := H1) fun v m => by obtain ⟨i, hi⟩ := List.getElem?_of_mem m; exact rx i v hi
    have hs1 := d1.s
    tm_at "rzs"
    refine fun D2 hD2 => lcRo (s := s) (n := l.toNat) (fun _ v H => ∃ t : Tk, TkAt H v t ∧ t.ok) (fun _ v H H' acc ⟨t, h, o⟩ e b => ⟨t, h.but e b, o⟩) (fun _ v H H' ⟨t, h, o⟩ e d => ⟨t, h.dr e d, o⟩) hs1 hD2 (by omega) (fun i H2 Kt Kf acc hi d2 e2 kt => ?_) (fun ys H2 d2 ly ry nD2 gD2 => ?_)
    · have hs2 := d2.s
      tm_at "rzs"
      exact fun v t H4 d4 ht ok => kt v H4 d4 ⟨t, ht, ok⟩
    obtain ⟨us', hus, oku⟩ := tks_of (us := ys) (H := H2) fun v m => by obtain ⟨i, hi⟩ := List.getElem?_of_mem m; exact ry i v hi
    have hs2 := d2.s
    have hts2 := hts.dr hs1 d2
    have gD' := d2.app nD gD
    tm_at "rzs"
    refine fun D3 hD3 => lcRo (s := s) (n := n.toNat) (fun _ v H => InsC T.c_Words.C H v) (fun _ v H H' acc h e b => h.but b e) (fun _ v H H' h e d => h.dr e d) hs2 hD3 (by omega) (fun i H3 Kt Kf acc hi d3 e3 kt => ?_) (fun bs H3 d3 lb rb nD3 gD3 => ?_)
    · have hs3 := d3.s
      tm_at "rzs"
      obtain ⟨c, hc, okc⟩ := letter_at (i := 0 + (i : Int)) (by omega) (by omega)
      refine ⟨_, _, c, rfl, rfl, Nat.le_of_ble_eq_true rfl, hc, ?_⟩
      tm_at "rzs"
      intro x dx fx fdx nd
      have sm := make_same (o := HO.own x) (o' := HO.ins T.c_Words.C dx []) fx fdx nd
      refine ⟨x, dx, [c], [119], rfl, upd_same, ⟨Nat.le_of_ble_eq_true rfl, Nat.le_of_ble_eq_true rfl, fun c' m => by rw [List.mem_singleton.mp m]; exact okc⟩, fun H4 b4 i4 => ⟨rfl, ?_⟩⟩
      exact kt _ H4 (Dr.of hs3 (Same.mut' sm b4 fx)) i4
    have hs3 := d3.s
    have hts3 := hts2.dr hs2 d3
    have hus3 := hus.dr hs2 d3
    have gD3' := d3.app nD gD'
    have gDy3 := d3.app nD2 gD2
    have d03 := (d1.trans d2).trans d3
    have hp3 := d03.app np hp
    have hu3 := hu.dr d03
    have hbw : ∀ w ∈ bs, InsC T.c_Words.C H3 w := fun w m => by obtain ⟨i, hi⟩ := List.getElem?_of_mem m; exact rb i w hi
    tm_at "rzs"
    refine ⟨p, us, rfl, .inl (sqL hp3), fun p4 H4 f4 s4 g4 => ?_⟩
    tm_at "rzs"
    obtain ⟨ds, hits, hcel⟩ := hu3
    have hth := its_ths hits
    refine ⟨D3, p4, D, D2, bs, us, xs, ys, _, ts, us', rfl, s4 _ _ gD3, by omega, fun w m => (hbw w m).same s4, g4, hth.same s4, by rw [List.length_map, ← hits.1]; omega, s4 _ _ gD3', hts3.mono s4, okt, ?_, ?_, s4 _ _ gDy3, hus3.mono s4, oku, ?_, ?_, fun H5 s5 r fr => ?_⟩
    · intro e; have h := hts.1; rw [e, lx, List.length_nil] at h; omega
    · have := hts.1; omega
    · intro e; have h := hus.1; rw [e, ly, List.length_nil] at h; omega
    · have := hus.1; omega
    have ea : (ts.length : Int) = a := by have := hts.1; omega
    have el : (us'.length : Int) = l := by have := hus.1; omega
    rw [ea, el, lb]
    have cl : (PyData.list ds).canLay0 = true := canLay_list hcel
    have sh := cels_shaped hcel
    have d05 := d03.same (s4.trans s5)
    have hs5 := d05.s
    have hits5 := hits.mono (s4.trans s5)
    have gp5 := s5 _ _ (s4 _ _ hp3)
    have gq5 := s5 _ _ g4
    refine ⟨fun e g5 => ?_, fun e x dx pc ps fs fx gx lc ls gpc gps g5 => ?_⟩
    · refine ⟨r, _, rfl, sqT g5, rfl, ?_⟩
      refine ⟨_, _, rfl, ?_⟩
      refine ⟨_, _, rfl, ?_⟩
      refine ⟨rfl, ?_⟩
      refine ⟨_, rfl, _, rfl, .list ds, .list ds, .lst (sqL gq5) hits5.dp, .lst (sqL gp5) hits5.dp, sh, sh, ?_⟩
      rw [SeqAt.eqv_refl _ cl]
      tm_at "rzs"
      refine ⟨p, n.toNat, a, l, us, ds.map toO, by rw [Int.toNat_of_nonneg n0]; rfl, a1, l1, gp5, hth.same (s4.trans s5), ln, fun H6 s6 => ?_⟩
      rw [e]
      tm_at "rzs"
      exact k H6 (d05.same s6)
    · refine ⟨r, _, rfl, sqT g5, rfl, ?_⟩
      refine ⟨_, _, rfl, ?_⟩
      refine ⟨_, _, rfl, ?_⟩
      refine ⟨rfl, ?_⟩
      refine ⟨_, rfl, _, rfl, .list ds, .list ds, .lst (sqL gq5) hits5.dp, .lst (sqL gp5) hits5.dp, sh, sh, ?_⟩
      rw [SeqAt.eqv_refl _ cl]
      tm_at "rzs"
      refine ⟨p, n.toNat, a, l, us, ds.map toO, by rw [Int.toNat_of_nonneg n0]; rfl, a1, l1, gp5, hth.same (s4.trans s5), ln, fun H6 s6 => ?_⟩
      rw [e]
      have gq6 := s6 _ _ gq5
      have gx6 := s6 _ _ gx
      tm_at "rzs"
      intro t7 H7 f7 s7 g7
      tm_at "rzs"
      refine ⟨p4, us, _, rfl, rfl, s7 _ _ gq6, small1000 (by omega), fun H8 b8 g8 => ?_⟩
      tm_at "rzs"
      have s57 : Same H5 H7 := s6.trans s7
      have gD7 := s57 _ _ (s5 _ _ (s4 _ _ gD3'))
      have n4 : ∀ b o, H3 b = some o → b ≠ p4 := fun b o h => by rintro rfl; rw [f4] at h; cases h
      have nD4 : D ≠ p4 := n4 _ _ gD3'
      refine ⟨D, xs, rfl, rfl, b8 _ _ nD4 gD7, fun H9 b9 g9 => ?_⟩
      have keep : ∀ b o, H5 b = some o → b ≠ p4 → b ≠ D → H9 b = some o := fun b o h h1 h2 => b9 _ _ h2 (b8 _ _ h1 (s57 _ _ h))
      have gx9 := keep _ _ gx (by rintro rfl; rw [gq5] at gx; cases gx) (by rintro rfl; rw [s5 _ _ (s4 _ _ gD3')] at gx; cases gx)
      have gc9 := keep _ _ gpc (by rintro rfl; rw [gq5] at gpc; cases gpc) (by rintro rfl; rw [s5 _ _ (s4 _ _ gD3')] at gpc; cases gpc)
      have gs9 := keep _ _ gps (by rintro rfl; rw [gq5] at gps; cases gps) (by rintro rfl; rw [s5 _ _ (s4 _ _ gD3')] at gps; cases gps)
      have fp4 : H p4 = none := d03.free f4 (d03.s.ne f4)
      have gp9 := keep _ _ gp5 (n4 _ _ hp3) (by rintro rfl; rw [hD] at hp; cases hp)
      have hin : ∀ c, H c = none → ∀ v ∈ us, v ≠ .ref c := fun c hc v m e => by
        obtain ⟨d, it, _⟩ := its1_all.mp hu v m
        subst e
        exact it.there c rfl hc
      have hits9 : ItsAt H9 us ds := ((hits5.mono s57).but b8 (hin p4 fp4)).but b9 (hin D hD)
      tm_at "rzs"
      refine ⟨x, _, dx, fs, _, rfl, gx9, T.c_Grid.cls, T.n_Grid_spots, ls, ?_⟩
      tm_at "rzs"
      refine ⟨p, us, rfl, sqL gp9, fun t10 H10 f10 s10 g10 => ?_⟩
      have hits10 := hits9.mono s10
      refine ⟨.tuple ds, .tuple ds, .tup (sqT (s10 _ _ gs9)) hits10.dp, .tup (sqT g10) hits10.dp, shaped_tup sh, shaped_tup sh, ?_⟩
      rw [eqv_tup_self cl]
      have gx10 := s10 _ _ gx9
      tm_at "rzs"
      refine ⟨x, _, dx, fs, _, rfl, gx10, T.c_Grid.cls, T.n_Grid_columns, lc, ?_⟩
      tm_at "rzs"
      refine iteF' (by rw [int_inj_dec, decide_eq_true (by rw [lx]; omega)]; rfl) ?_
      tm_at "rzs"
      refine ⟨x, _, dx, fs, _, rfl, gx10, T.c_Grid.cls, T.n_Grid_spots, ls, ?_⟩
      tm_at "rzs"
      have gs10 := s10 _ _ gs9
      have est : stB a l [] (ds.map toO) = true := (Bool.and_eq_true _ _ ▸ e).2
      refine ⟨⟨_, sqT gs10⟩, fun D4 hD4 => lcTx (K := K) (xs := us) (fun _ => V.bl true) hD4 (sqT gs10) (by omega) (fun i z H11 Kt Kf hz s11 kt => ?_) (fun H11 s11 g11 => ?_)⟩
      · obtain ⟨d, hd, it⟩ := hits10.at' hz
        tm_at "rzs"
        refine ⟨z, toO d, a, l, rfl, (it_th it).same s11, fun H12 s12 => ?_⟩
        have hb : spotB a l (toO d) = true := stB_take (ds.map toO) [] est (toO d) (List.mem_map_of_mem (List.mem_of_getElem? hd))
        rw [hb]
        exact kt _ s12
      rw [bls _ fun _ => true] at g11
      tm_at "rzs"
      refine ⟨D4, _, rfl, sqL g11, ?_⟩
      rw [all_true]
      exact k H11 (((((d05.same s57).mut b8 fp4 (d03.s.ne f4).symm).mut b9 hD nD.symm).same s10).same s11)
end
end My
namespace My
open PySem PySem.Spec PyProof.Rows L2
section
variable {P : Program} {w : World} {K : PySem.W.Frag} {mg : Str → Option Value} {base : Heap}
def sp_law (K : PySem.W.Frag) : Sp := fun vs H Q _ => ∃ (a : Addr) (ns : List Int), vs = [.ref a] ∧ SqL K H a (ns.map V.int) ∧ ns.length ≤ 63 ∧ ∀ H', Q (.bl true) H'
theorem ok_law (T : Tx K mg) : FnOk P w K mg base CX0 11 T.d_law.f T.d_law.fd ["_law_script"] (sp_law K) := by
  refine T.d_law.F.ok sc_law (fun vs H Q E h => ?_) (fun cdv A outer s H vs Q E hr h => ?_)
  · obtain ⟨a, s, rfl, _⟩ := h
    rfl
  · obtain ⟨a, ns, rfl, hS, hl, k⟩ := h
    refine ⟨_, (pss_cons (ps_for PassesOwn.never (by rfl) (pi_range1 (by rfl) T.b_range (pa_cons (pe_callB (call_max2 rfl) (by rfl) T.b_max (by decide +kernel) (pa_cons pe_int (pa_cons (pe_callB (call_min2 rfl) (by rfl) T.b_min (by decide +kernel) (pa_cons pe_int (pa_cons (pe_callB (call_lenK (K := K) rfl) (by rfl) T.b_len (by decide +kernel) (pa_cons (pv 0) pa_nil)) pa_nil))) pa_nil))) pa_nil)) (pg_name (i := 1) sc_law.nd rfl (Or.inl rfl))
      (pss_cons (ps_set (i := 2) sc_law.nd rfl (Or.inl rfl) (pe_call (ok_w_source T) (hr.mono (by decide)) (by rfl) T.d_w_source.g T.d_w_source.F.kp T.d_w_source.b .nil pass0 (pa_cons (pe_call (ok_w_cell_at T) (hr.mono (by decide)) (by rfl) T.d_w_cell_at.g T.d_w_cell_at.F.kp T.d_w_cell_at.b .nil pass0 (pa_cons (pv 0) (pa_cons (pv 1) pa_nil))) pa_nil)))
      (pss_cons (ps_set (i := 3) sc_law.nd rfl (Or.inl rfl) (pe_call (ok_w_next T) (hr.mono (by decide)) (by rfl) T.d_w_next.g T.d_w_next.F.kp T.d_w_next.b .nil pass0 (pa_cons (pv 2) (pa_cons pe_int pa_nil))))
      (pss_cons (ps_set (i := 4) sc_law.nd rfl (Or.inl rfl) (pe_call (ok_w_next T) (hr.mono (by decide)) (by rfl) T.d_w_next.g T.d_w_next.F.kp T.d_w_next.b .nil pass0 (pa_cons (pv 2) (pa_cons pe_int pa_nil))))
      (pss_cons (ps_set (i := 5) sc_law.nd rfl (Or.inl rfl) (pe_op op_add pe_int (pe_call (ok_w_next T) (hr.mono (by decide)) (by rfl) T.d_w_next.g T.d_w_next.F.kp T.d_w_next.b .nil pass0 (pa_cons (pv 2) (pa_cons (pe_ix (ix_listK (K := K) rfl) (pe_lstA (pa_cons pe_int (pa_cons pe_int (pa_cons pe_int (pa_cons pe_int pa_nil))))) (pe_call (ok_w_next T) (hr.mono (by decide)) (by rfl) T.d_w_next.g T.d_w_next.F.kp T.d_w_next.b .nil pass0 (pa_cons (pv 2) (pa_cons pe_int pa_nil))) (fun _ _ => rfl)) pa_nil)))))
      (pss_cons (ps_set (i := 6) sc_law.nd rfl (Or.inl rfl) (pe_op op_add pe_int (pe_call (ok_w_next T) (hr.mono (by decide)) (by rfl) T.d_w_next.g T.d_w_next.F.kp T.d_w_next.b .nil pass0 (pa_cons (pv 2) (pa_cons (pe_ix (ix_listK (K := K) rfl) (pe_lstA (pa_cons pe_int (pa_cons pe_int (pa_cons pe_int (pa_cons pe_int pa_nil))))) (pe_call (ok_w_next T) (hr.mono (by decide)) (by rfl) T.d_w_next.g T.d_w_next.F.kp T.d_w_next.b .nil pass0 (pa_cons (pv 2) (pa_cons pe_int pa_nil))) (fun _ _ => rfl)) pa_nil)))))
      (pss_cons (ps_set (i := 7) sc_law.nd rfl (Or.inl rfl) (pe_call (ok_w_next T) (hr.mono (by decide)) (by rfl) T.d_w_next.g T.d_w_next.F.kp T.d_w_next.b .nil pass0 (pa_cons (pv 2) (pa_cons pe_int pa_nil))))
      (pss_cons (ps_set (i := 8) sc_law.nd rfl (Or.inl rfl) (pe_call (ok_w_apart T) (hr.mono (by decide)) (by rfl) T.d_w_apart.g T.d_w_apart.F.kp T.d_w_apart.b .nil pass0 (pa_cons (pv 2) (pa_cons (pv 7) (pa_cons (pv 5) (pa_cons (pv 6) pa_nil))))))
      (pss_cons (ps_set (i := 7) sc_law.nd rfl (Or.inl rfl) (pe_callB (call_lenK (K := K) rfl) (by rfl) T.b_len (by decide +kernel) (pa_cons (pv 8) pa_nil)))
      (pss_cons (ps_if (pt_cmpR op_eq (pv 3) pe_int (nomark _))
      (pss_one (ps_set (i := 8) sc_law.nd rfl (Or.inl rfl) (pe_call (ok_w_any T) (hr.mono (by decide)) (by rfl) T.d_w_any.g T.d_w_any.F.kp T.d_w_any.b .nil pass0 (pa_cons (pv 2) (pa_cons (pv 7) (pa_cons (pv 5) (pa_cons (pv 6) pa_nil)))))))
      pss_nil)
      (pss_cons (ps_if (PW.pt (pw_and (pt_cmpR op_gt (pv 3) pe_int (nomark _)) (pw_and1 (pt_cmpR (op_ne0K (K := K) hr.units rfl) (pv 8) (pe_lstA pa_nil) (nomark _)))))
      (pss_one (ps_set (i := 8) sc_law.nd rfl (Or.inl rfl) (pe_call (ok_w_spoilt T) (hr.mono (by decide)) (by rfl) T.d_w_spoilt.g T.d_w_spoilt.F.kp T.d_w_spoilt.b .nil pass0 (pa_cons (pv 2) (pa_cons (pv 8) (pa_cons (pv 5) (pa_cons (pv 6) pa_nil)))))))
      pss_nil)
      (pss_cons (ps_if (pt_cmpR op_eq (pv 4) pe_int (nomark _))
      (pss_one (ps_set (i := 7) sc_law.nd rfl (Or.inl rfl) (pe_op op_add (pv 7) pe_int)))
      pss_nil)
      (pss_cons (ps_if (PW.pt (pw_and (pt_cmpR op_eq (pv 4) pe_int (nomark _)) (pw_and1 (pt_cmpR op_gt (pv 7) pe_int (nomark _)))))
      (pss_one (ps_set (i := 7) sc_law.nd rfl (Or.inl rfl) (pe_op op_sub (pv 7) pe_int)))
      pss_nil)
      (pss_one (ps_if (pt_not (pt_val (pe_call (ok_w_right T) (hr.mono (by decide)) (by rfl) T.d_w_right.g T.d_w_right.F.kp T.d_w_right.b .nil pass0 (pa_cons (pv 2) (pa_cons (pv 8) (pa_cons (pe_callB (call_min2 rfl) (by rfl) T.b_min (by decide +kernel) (pa_cons (pv 7) (pa_cons pe_int pa_nil))) (pa_cons (pv 5) (pa_cons (pv 6) pa_nil))))))))
      (pss_one (ps_ret pe_bl))
      pss_nil)))))))))))))))
      (pss_one (ps_ret pe_bl))), ?_⟩
    tm_at "rzs"
    obtain ⟨N, hN, hN2⟩ : ∃ N : Nat, ((if (if (((ns.map V.int).length : Nat) : Int) < 6 then (((ns.map V.int).length : Nat) : Int) else 6) > 1 then (if (((ns.map V.int).length : Nat) : Int) < 6 then (((ns.map V.int).length : Nat) : Int) else 6) else 1) : Int).toNat = N ∧ N ≤ 6 := by
      refine ⟨_, rfl, ?_⟩
      split
      · split <;> omega
      · decide
    rw [hN]
    refine for_range (lo := 0) (n := N) (fun i σ H' => ∃ (v1 v2 v3 v4 v5 v6 v7 v8 : Option V), σ = [some (.ref a), v1, v2, v3, v4, v5, v6, v7, v8] ∧ SqL K H' a (ns.map V.int))
      ⟨_, _, _, _, _, _, _, _, rfl, hS⟩ ?_ ?_
    · rintro i σ H4 hi ⟨v1, v2, v3, v4, v5, v6, v7, v8, rfl, hS4⟩
      dsimp only [gName]
      tm_at "rzs"
      refine ⟨a, ns, i, by rw [Int.zero_add]; rfl, hS4, hl, fun z => ?_⟩
      tm_at "rzs"
      intro s H5 f5 s5 g5
      have hs5 : Src H5 s := ⟨_, g5⟩
      have hA : ∀ H', Dr s H5 H' → SqL K H' a (ns.map V.int) := by
        by_cases e : a = s
        · subst e
          rcases hS4 with (h | ⟨o, h⟩) | h
          · rw [f5] at h; cases h
          · rw [f5] at h; cases h
          · exact fun _ _ => .inr h
        · exact fun H' d => d.seq e (s5.seq hS4)
      dsimp only [gName]
      tm_at "rzs"
      intro way H6 d6 l6 u6
      dsimp only [gName]
      tm_at "rzs"
      intro wro H7 d7 l7 u7
      dsimp only [gName]
      tm_at "rzs"
      intro p8 H8 f8 s8 g8
      have np8 : p8 ≠ s := d7.s.ne f8
      have hs8 := d7.s.same s8
      tm_at "rzs"
      intro n9 H9 d9 l9 u9
      obtain ⟨x, hx, ac, rfl, ac0, ac1⟩ := pick4 (P := InR 1 11) l9 u9 (a := .int 3) (b := .int 3) (c := .int 5) (d := .int 10) ⟨_, rfl, by decide, by decide⟩ ⟨_, rfl, by decide, by decide⟩ ⟨_, rfl, by decide, by decide⟩ ⟨_, rfl, by decide, by decide⟩
      refine ⟨_, _, _, _, rfl, rfl, sqL (d9.app np8 g8), hx, ?_⟩
      tm_at "rzs"
      intro a10 H10 d10 l10 u10
      dsimp only [gName]
      tm_at "rzs"
      intro p11 H11 f11 s11 g11
      have np11 : p11 ≠ s := d10.s.ne f11
      have hs11 := d10.s.same s11
      tm_at "rzs"
      intro n12 H12 d12 l12 u12
      obtain ⟨x, hx, ac', rfl, ac0', ac1'⟩ := pick4 (P := InR 1 11) l12 u12 (a := .int 3) (b := .int 3) (c := .int 5) (d := .int 10) ⟨_, rfl, by decide, by decide⟩ ⟨_, rfl, by decide, by decide⟩ ⟨_, rfl, by decide, by decide⟩ ⟨_, rfl, by decide, by decide⟩
      refine ⟨_, _, _, _, rfl, rfl, sqL (d12.app np11 g11), hx, ?_⟩
      tm_at "rzs"
      intro l13 H13 d13 l13' u13
      dsimp only [gName]
      tm_at "rzs"
      intro c14 H14 d14 l14 u14
      dsimp only [gName]
      have d514 : Dr s H5 H14 := ((((((d6.trans d7).same s8).trans d9).trans d10).same s11).trans d12).trans (d13.trans d14)
      have hs14 := d14.s
      tm_at "rzs"
      refine ⟨s, c14, 1 + a10, 1 + l13, rfl, d14.s, l14, by omega, by omega, by omega, by omega, by omega, fun p us ds H15 d15 fp gp hc hu => ?_⟩
      have nps : p ≠ s := hs14.ne fp
      have d515 := d514.trans d15
      dsimp only [gName]
      obtain ⟨cnt, hcnt, cnt0, cnt1⟩ : ∃ c : Int, (us.length : Int) = c ∧ 0 ≤ c ∧ c ≤ 8 := ⟨_, rfl, by omega, by omega⟩
      have hs15 := d15.s
      refine seq_key (M := fun σ H' => σ = [some (.ref a), some (.int (0 + (i : Int))), some (.ref s), some (.int way), some (.int wro), some (.int (1 + a10)), some (.int (1 + l13)), some (.int cnt), some (.ref p)] ∧ H' = H15) ?_ (fun NN hNN => ?_)
      rotate_left
      · tm_at "rzs"
        rw [hcnt]
        exact hNN _ _ ⟨rfl, rfl⟩
      rintro σ H15 ⟨rfl, rfl⟩
      refine seq_key (M := fun σ H' => ∃ (q : Addr) (us' : List V) (ds' : List PyData), σ = [some (.ref a), some (.int (0 + (i : Int))), some (.ref s), some (.int way), some (.int wro), some (.int (1 + a10)), some (.int (1 + l13)), some (.int cnt), some (.ref q)] ∧ Dr s H15 H' ∧ q ≠ s ∧ H' q = some (.lst us') ∧ Cs4 H' us' ds' ∧ us'.length ≤ 8) ?_ (fun NN hNN => ?_)
      rotate_left
      · tm_at "rzs"
        refine ite2 (fun e => ?_) (fun e => ?_)
        · tm_at "rzs"
          refine ⟨s, cnt, 1 + a10, 1 + l13, rfl, hs15, cnt0, cnt1, by omega, by omega, by omega, by omega, fun q us' ds' H16 d16 fq gq hc' hu' => ?_⟩
          exact hNN _ _ ⟨q, us', ds', rfl, d16, hs15.ne fq, gq, hc', hu'⟩
        · exact hNN _ _ ⟨p, us, ds, rfl, Dr.refl hs15, nps, gp, hc, hu⟩
      rintro σ H16 ⟨q, us', ds', rfl, d16, nq, gq, hc', hu'⟩
      refine seq_key (M := fun σ H' => ∃ (q : Addr) (us' : List V), σ = [some (.ref a), some (.int (0 + (i : Int))), some (.ref s), some (.int way), some (.int wro), some (.int (1 + a10)), some (.int (1 + l13)), some (.int cnt), some (.ref q)] ∧ Dr s H16 H' ∧ q ≠ s ∧ H' q = some (.lst us') ∧ Its1 H' us' ∧ us'.length ≤ 9) ?_ (fun NN hNN => ?_)
      rotate_left
      · tm_at "rzs"
        refine ite2 (fun e => ?_) (fun e => ?_)
        · tm_at "rzs"
          intro pE H17 f17 s17 g17
          refine ⟨pE, rfl, sqL g17, .inr ⟨q, us', rfl, sqL (s17 _ _ gq), ?_⟩⟩
          tm_at "rzs"
          refine ite2 (fun e2 => ?_) (fun e2 => ?_)
          · tm_at "rzs"
            refine ⟨s, q, 1 + a10, 1 + l13, us', ds', rfl, d16.s.same s17, nq, s17 _ _ gq, hc'.same s17, (by rintro rfl; cases e2), hu', fun r ws H18 d18 fr gr hw lw => ?_⟩
            exact hNN _ _ ⟨r, ws, rfl, (Dr.of d16.s s17).trans d18, (d16.s.same s17).ne fr, gr, hw, lw⟩
          · exact hNN _ _ ⟨q, us', rfl, Dr.of d16.s s17, nq, s17 _ _ gq, (hc'.same s17).its, by omega⟩
        · exact hNN _ _ ⟨q, us', rfl, Dr.refl d16.s, nq, gq, hc'.its, by omega⟩
      rintro σ H17 ⟨q, us', rfl, d17, nq, gq, hi', hu'⟩
      refine seq_key (M := fun σ H' => ∃ n : Int, σ = [some (.ref a), some (.int (0 + (i : Int))), some (.ref s), some (.int way), some (.int wro), some (.int (1 + a10)), some (.int (1 + l13)), some (.int n), some (.ref q)] ∧ H' = H17 ∧ 0 ≤ n ∧ n ≤ 9) ?_ (fun NN hNN => ?_)
      rotate_left
      · tm_at "rzs"
        refine ite2 (fun e => ?_) (fun e => ?_)
        · tm_at "rzs"
          exact hNN _ _ ⟨cnt + 1, rfl, rfl, by omega, by omega⟩
        · exact hNN _ _ ⟨cnt, rfl, rfl, by omega, by omega⟩
      rintro σ H18 ⟨n, rfl, rfl, n0, n1⟩
      refine seq_key (M := fun σ H' => ∃ n : Int, σ = [some (.ref a), some (.int (0 + (i : Int))), some (.ref s), some (.int way), some (.int wro), some (.int (1 + a10)), some (.int (1 + l13)), some (.int n), some (.ref q)] ∧ H' = H18 ∧ 0 ≤ n ∧ n ≤ 9) ?_ (fun NN hNN => ?_)
      rotate_left
      · tm_at "rzs"
        refine ite2 (fun e => ?_) (fun e => ?_)
        · tm_at "rzs"
          refine ite2 (fun e2 => ?_) (fun e2 => ?_)
          · tm_at "rzs"
            have : (0 : Int) < n := of_decide_eq_true e2
            exact hNN _ _ ⟨n - 1, rfl, rfl, by omega, by omega⟩
          · exact hNN _ _ ⟨n, rfl, rfl, n0, n1⟩
        · exact hNN _ _ ⟨n, rfl, rfl, n0, n1⟩
      rintro σ H19 ⟨n', rfl, rfl, n0', n1'⟩
      tm_at "rzs"
      refine ⟨s, q, _, 1 + a10, 1 + l13, us', rfl, d17.s, nq, ?_, ?_, by omega, by omega, by omega, by omega, gq, hi', hu', fun H20 d20 => ?_⟩
      · split <;> omega
      · split <;> omega
      tm_at "rzs"
      exact ⟨_, _, _, _, _, _, _, _, rfl, hA _ (((d515.trans d16).trans d17).trans d20)⟩
    · rintro σ H4 ⟨v1, v2, v3, v4, v5, v6, v7, v8, rfl, hS4⟩
      tm_at "rzs"
      exact k _
end
end My
namespace My
open PySem L2
theorem law_end {l : PySem.W.OpenLaw} {w : World} {K : PySem.W.Frag} {mg : Str → Option Value} {fa : Addr} (hfa : mg "law" = some (.ref fa)) (T : Tx K mg) :
    ∃ fd : FuncData, (∀ (s : Shared) (v : Value), BindsTo s fd ⟨[v], []⟩ [("_law_script", v)]) ∧ ∀ base : Heap, K.In base → base.Ns mainGlobals mg → FnOk l.prog w K mg base CX0 11 fa fd ["_law_script"] (sp_law K) := by
  have e := hfa.symm.trans T.d_law.g
  cases e
  refine ⟨T.d_law.fd, fun s v => ?_, fun base _ _ => ok_law T⟩
  obtain ⟨oc, od, kV, doc, pm, an, cdv, ct, osl, e, _, _⟩ := T.d_law.F.ex
  rw [e]
  exact .of_eq rfl
end My
open PySem PySem.W PyProof.Rows
set_option maxRecDepth 100000 in
set_option maxHeartbeats 0 in
theorem PySem.Challenge.cw_nestlaid_k20_whole_spots_of_grids_holds : PySem.Challenge.rw_nestlaid_k20_whole_spots_of_grids.Holds := by
  w_on; o_law; k_head; (case hw => w_witness2)
  k_fill
  refine L2.walk_of (l := PySem.Challenge.rw_nestlaid_k20_whole_spots_of_grids) (n := 63) (k := 11) (x := "_law_script") (CX := fun _ => L2.CX0) (sp := fun w => My.sp_law _) rfl (by decide) rfl ⟨rfl, by decide, by decide⟩ (fun w h Y => PySem.W.kIn_of Y) ?F (fun _ _ a ns hl _ hS => ⟨a, ns, rfl, hS, hl, fun _ => rfl⟩) (fun _ _ _ _ _ h => h)
  case F =>
    intro w mg fa h KX G hmg
    refine' My.law_end hmg { U_NO_RIMS := _, U_SIDES := _, U_STANDS := _, U_LETTERS := _, U_LONGEST := _, c_Style := My.cl_mk KX G ?cStyle0 ?cStyle1 ?cStyle2 ?cStyle3 ?cStyle4, n_Style_wide := ?nStylewide, n_Style_high := ?nStylehigh, n_Style_least_wide := ?nStyleleast_wide, n_Style_least_high := ?nStyleleast_high, n_Style_most_wide := ?nStylemost_wide, n_Style_most_high := ?nStylemost_high, n_Style_grow := ?nStylegrow, n_Style_shrink := ?nStyleshrink, n_Style_rims := ?nStylerims, n_Style_stand := ?nStylestand, c_Box := My.cl_mk KX G ?cBox0 ?cBox1 ?cBox2 ?cBox3 ?cBox4, c_Words := My.cl_mk KX G ?cWords0 ?cWords1 ?cWords2 ?cWords3 ?cWords4, n_Words_name := ?nWordsname, n_Words_text := ?nWordstext, n_Words_style := ?nWordsstyle, c_Grid := My.cl_mk KX G ?cGrid0 ?cGrid1 ?cGrid2 ?cGrid3 ?cGrid4, n_Grid_name := ?nGridname, n_Grid_boxes := ?nGridboxes, n_Grid_columns := ?nGridcolumns, n_Grid_rows := ?nGridrows, n_Grid_spots := ?nGridspots, n_Grid_gap := ?nGridgap, n_Grid_lane := ?nGridlane, n_Grid_stands := ?nGridstands, n_Grid_style := ?nGridstyle, d__wall := My.df_mk KX G ?a1 ?l1 ?c1 ?k1 (fun _ _ _ _ _ _ us hl => match us, hl with | [_], _ => rfl), d_is_whole := My.df_mk KX G ?a2 ?l2 ?c2 ?k2 (fun _ _ _ _ _ _ us hl => match us, hl with | [_], _ => rfl), d_is_count := My.df_mk KX G ?a3 ?l3 ?c3 ?k3 (fun _ _ _ _ _ _ us hl => match us, hl with | [_], _ => rfl), d_is_name := My.df_mk KX G ?a4 ?l4 ?c4 ?k4 (fun _ _ _ _ _ _ us hl => match us, hl with | [_], _ => rfl), d_is_share := My.df_mk KX G ?a5 ?l5 ?c5 ?k5 (fun _ _ _ _ _ _ us hl => match us, hl with | [_], _ => rfl), d_is_track := My.df_mk KX G ?a6 ?l6 ?c6 ?k6 (fun _ _ _ _ _ _ us hl => match us, hl with | [_], _ => rfl), d_are_tracks := My.df_mk KX G ?a7 ?l7 ?c7 ?k7 (fun _ _ _ _ _ _ us hl => match us, hl with | [_], _ => rfl), d_is_stretch := My.df_mk KX G ?a8 ?l8 ?c8 ?k8 (fun _ _ _ _ _ _ us hl => match us, hl with | [_, _, _], _ => rfl), d_is_spot := My.df_mk KX G ?a9 ?l9 ?c9 ?k9 (fun _ _ _ _ _ _ us hl => match us, hl with | [_, _, _], _ => rfl), d_apart := My.df_mk KX G ?a10 ?l10 ?c10 ?k10 (fun _ _ _ _ _ _ us hl => match us, hl with | [_, _], _ => rfl), d_may_stand := My.df_mk KX G ?a11 ?l11 ?c11 ?k11 (fun _ _ _ _ _ _ us hl => match us, hl with | [_, _, _, _], _ => rfl), d_are_spots := My.df_mk KX G ?a12 ?l12 ?c12 ?k12 (fun _ _ _ _ _ _ us hl => match us, hl with | [_, _, _, _], _ => rfl), d_is_part := My.df_mk KX G ?a13 ?l13 ?c13 ?k13 (fun _ _ _ _ _ _ us hl => match us, hl with | [_], _ => rfl), d_is_tie := My.df_mk KX G ?a14 ?l14 ?c14 ?k14 (fun _ _ _ _ _ _ us hl => match us, hl with | [_], _ => rfl), d_is_size := My.df_mk KX G ?a15 ?l15 ?c15 ?k15 (fun _ _ _ _ _ _ us hl => match us, hl with | [_], _ => rfl), d_is_bound := My.df_mk KX G ?a16 ?l16 ?c16 ?k16 (fun _ _ _ _ _ _ us hl => match us, hl with | [_], _ => rfl), d_is_rims := My.df_mk KX G ?a17 ?l17 ?c17 ?k17 (fun _ _ _ _ _ _ us hl => match us, hl with | [_], _ => rfl), d_Style_init := My.ini_mk ?iStyle_init0 ?iStyle_init1 ?iStyle_init2 ?iStyle_init3 ?iStyle_init4 ?iStyle_init5 ?iStyle_init6 (.cons ?wStyle_init0 ?xStyle_init0 (.cons ?wStyle_init1 ?xStyle_init1 (.cons ?wStyle_init2 ?xStyle_init2 (.cons ?wStyle_init3 ?xStyle_init3 (.cons ?wStyle_init4 ?xStyle_init4 (.cons ?wStyle_init5 ?xStyle_init5 (.cons ?wStyle_init6 ?xStyle_init6 (.cons ?wStyle_init7 ?xStyle_init7 (.cons ?wStyle_init8 ?xStyle_init8 (.cons ?wStyle_init9 ?xStyle_init9 .nil)))))))))), d_told_fields := My.df_mk KX G ?a18 ?l18 ?c18 ?k18 (fun _ _ _ _ _ _ us hl => match us, hl with | [_], _ => rfl), d_shown_fields := My.df_mk KX G ?a19 ?l19 ?c19 ?k19 (fun _ _ _ _ _ _ us hl => match us, hl with | [_], _ => rfl), d_checked_name := My.df_mk KX G ?a20 ?l20 ?c20 ?k20 (fun _ _ _ _ _ _ us hl => match us, hl with | [_], _ => rfl), d_checked_style := My.df_mk KX G ?a21 ?l21 ?c21 ?k21 (fun _ _ _ _ _ _ us hl => match us, hl with | [_], _ => rfl), d_checked_boxes := My.df_mk KX G ?a22 ?l22 ?c22 ?k22 (fun _ _ _ _ _ _ us hl => match us, hl with | [_], _ => rfl), d_checked_gap := My.df_mk KX G ?a23 ?l23 ?c23 ?k23 (fun _ _ _ _ _ _ us hl => match us, hl with | [_], _ => rfl), d_checked_stands := My.df_mk KX G ?a24 ?l24 ?c24 ?k24 (fun _ _ _ _ _ _ us hl => match us, hl with | [_], _ => rfl), d_Words_init := My.ini_mk ?iWords_init0 ?iWords_init1 ?iWords_init2 ?iWords_init3 ?iWords_init4 ?iWords_init5 ?iWords_init6 (.cons ?wWords_init0 ?xWords_init0 .nil), d_Grid_init := My.ini_mk ?iGrid_init0 ?iGrid_init1 ?iGrid_init2 ?iGrid_init3 ?iGrid_init4 ?iGrid_init5 ?iGrid_init6 (.cons ?wGrid_init0 ?xGrid_init0 (.cons ?wGrid_init1 ?xGrid_init1 (.cons ?wGrid_init2 ?xGrid_init2 (.cons ?wGrid_init3 ?xGrid_init3 .nil)))), d_w_cell_at := My.df_mk KX G ?a25 ?l25 ?c25 ?k25 (fun _ _ _ _ _ _ us hl => match us, hl with | [_, _], _ => rfl), d_w_mixed := My.df_mk KX G ?a26 ?l26 ?c26 ?k26 (fun _ _ _ _ _ _ us hl => match us, hl with | [_, _], _ => rfl), d_w_source := My.df_mk KX G ?a27 ?l27 ?c27 ?k27 (fun _ _ _ _ _ _ us hl => match us, hl with | [_], _ => rfl), d_w_next := My.df_mk KX G ?a28 ?l28 ?c28 ?k28 (fun _ _ _ _ _ _ us hl => match us, hl with | [_, _], _ => rfl), d_w_free := My.df_mk KX G ?a29 ?l29 ?c29 ?k29 (fun _ _ _ _ _ _ us hl => match us, hl with | [_, _, _, _], _ => rfl), d_w_tall := My.df_mk KX G ?a30 ?l30 ?c30 ?k30 (fun _ _ _ _ _ _ us hl => match us, hl with | [_, _, _, _], _ => rfl), d_w_apart := My.df_mk KX G ?a31 ?l31 ?c31 ?k31 (fun _ _ _ _ _ _ us hl => match us, hl with | [_, _, _, _], _ => rfl), d_w_any := My.df_mk KX G ?a32 ?l32 ?c32 ?k32 (fun _ _ _ _ _ _ us hl => match us, hl with | [_, _, _, _], _ => rfl), d_w_spoilt := My.df_mk KX G ?a33 ?l33 ?c33 ?k33 (fun _ _ _ _ _ _ us hl => match us, hl with | [_, _, _, _], _ => rfl), d_w_is_whole := My.df_mk KX G ?a34 ?l34 ?c34 ?k34 (fun _ _ _ _ _ _ us hl => match us, hl with | [_], _ => rfl), d_w_stands := My.df_mk KX G ?a35 ?l35 ?c35 ?k35 (fun _ _ _ _ _ _ us hl => match us, hl with | [_, _, _], _ => rfl), d_w_good := My.df_mk KX G ?a36 ?l36 ?c36 ?k36 (fun _ _ _ _ _ _ us hl => match us, hl with | [_, _, _, _], _ => rfl), d_w_track := My.df_mk KX G ?a37 ?l37 ?c37 ?k37 (fun _ _ _ _ _ _ us hl => match us, hl with | [_], _ => rfl), d_w_made := My.df_mk KX G ?a38 ?l38 ?c38 ?k38 (fun _ _ _ _ _ _ us hl => match us, hl with | [_, _, _, _], _ => rfl), d_w_right := My.df_mk KX G ?a39 ?l39 ?c39 ?k39 (fun _ _ _ _ _ _ us hl => match us, hl with | [_, _, _, _, _], _ => rfl), d_law := My.df_mk KX G ?a40 ?l40 ?c40 ?k40 (fun _ _ _ _ _ _ us hl => match us, hl with | [_], _ => rfl), b_ValueError := PySem.W.mg_none_of KX G ?z_ValueError, b_all := PySem.W.mg_none_of KX G ?z_all, b_any := PySem.W.mg_none_of KX G ?z_any, b_bool := PySem.W.mg_none_of KX G ?z_bool, b_enumerate := PySem.W.mg_none_of KX G ?z_enumerate, b_int := PySem.W.mg_none_of KX G ?z_int, b_isinstance := PySem.W.mg_none_of KX G ?z_isinstance, b_len := PySem.W.mg_none_of KX G ?z_len, b_list := PySem.W.mg_none_of KX G ?z_list, b_max := PySem.W.mg_none_of KX G ?z_max, b_min := PySem.W.mg_none_of KX G ?z_min, b_range := PySem.W.mg_none_of KX G ?z_range, b_str := PySem.W.mg_none_of KX G ?z_str, b_tuple := PySem.W.mg_none_of KX G ?z_tuple, v_NO_RIMS := PySem.W.mg_of KX G ?v_NO_RIMS, v_SIDES := PySem.W.mg_of KX G ?v_SIDES, v_STANDS := PySem.W.mg_of KX G ?v_STANDS, v_LETTERS := PySem.W.mg_of KX G ?v_LETTERS, v_LONGEST := PySem.W.mg_of KX G ?v_LONGEST, t_NO_RIMS := My.sqT_K ?tNO_RIMS0 ?tNO_RIMS1 ?tNO_RIMS2 ?tNO_RIMS3 ?tNO_RIMS4, t_SIDES := My.sqT_K ?tSIDES0 ?tSIDES1 ?tSIDES2 ?tSIDES3 ?tSIDES4, t_STANDS := My.sqT_K ?tSTANDS0 ?tSTANDS1 ?tSTANDS2 ?tSTANDS3 ?tSTANDS4, r_LETTERS := ?r_LETTERS, r_LONGEST := ?r_LONGEST, e_NestError := My.ex_mk KX G ?eNestError0 ?eNestError1 ?eNestError2 ?eNestError3 ?eNestError4 ?eNestError5 ?eNestError6 ?eNestError7 ?eNestError8 ?eNestError9 ?eNestError10 ?eNestError11, e_NoSpot := My.ex_mk KX G ?eNoSpot0 ?eNoSpot1 ?eNoSpot2 ?eNoSpot3 ?eNoSpot4 ?eNoSpot5 ?eNoSpot6 ?eNoSpot7 ?eNoSpot8 ?eNoSpot9 ?eNoSpot10 ?eNoSpot11, r_NoSpot := ?r_NoSpot, s_NoSpot := ?s_NoSpot, v_NoSpot := ?v_NoSpot, e_NoBox := My.ec_mk KX G ?eNoBox0 ?eNoBox1 ?eNoBox2, i_NoBox := ?i_NoBox, e_NoTrack := My.ec_mk KX G ?eNoTrack0 ?eNoTrack1 ?eNoTrack2, i_NoTrack := ?i_NoTrack, e_NoNumber := My.ec_mk KX G ?eNoNumber0 ?eNoNumber1 ?eNoNumber2, i_NoNumber := ?i_NoNumber, e_NoStyle := My.ec_mk KX G ?eNoStyle0 ?eNoStyle1 ?eNoStyle2, i_NoStyle := ?i_NoStyle, ww := ?ww, wb := ?wb, bt := ?bt, wc := ?wc, wg := ?wg, wt := ?wt, wm := ?wm }
    (case cStyle0 => k_is)
    (case cStyle1 => k_is)
    (case cStyle2 => k_is)
    (case cStyle3 => k_is)
    (case cStyle4 => k_is)
    (case nStylewide => dsimp only [My.cl_mk]; k_is)
    (case nStylehigh => dsimp only [My.cl_mk]; k_is)
    (case nStyleleast_wide => dsimp only [My.cl_mk]; k_is)
    (case nStyleleast_high => dsimp only [My.cl_mk]; k_is)
    (case nStylemost_wide => dsimp only [My.cl_mk]; k_is)
    (case nStylemost_high => dsimp only [My.cl_mk]; k_is)
    (case nStylegrow => dsimp only [My.cl_mk]; k_is)
    (case nStyleshrink => dsimp only [My.cl_mk]; k_is)
    (case nStylerims => dsimp only [My.cl_mk]; k_is)
    (case nStylestand => dsimp only [My.cl_mk]; k_is)
    (case cBox0 => k_is)
    (case cBox1 => k_is)
    (case cBox2 => k_is)
    (case cBox3 => k_is)
    (case cBox4 => k_is)
    (case cWords0 => k_is)
    (case cWords1 => k_is)
    (case cWords2 => k_is)
    (case cWords3 => k_is)
    (case cWords4 => k_is)
    (case nWordsname => dsimp only [My.cl_mk]; k_is)
    (case nWordstext => dsimp only [My.cl_mk]; k_is)
    (case nWordsstyle => dsimp only [My.cl_mk]; k_is)
    (case cGrid0 => k_is)
    (case cGrid1 => k_is)
    (case cGrid2 => k_is)
    (case cGrid3 => k_is)
    (case cGrid4 => k_is)
    (case nGridname => dsimp only [My.cl_mk]; k_is)
    (case nGridboxes => dsimp only [My.cl_mk]; k_is)
    (case nGridcolumns => dsimp only [My.cl_mk]; k_is)
    (case nGridrows => dsimp only [My.cl_mk]; k_is)
    (case nGridspots => dsimp only [My.cl_mk]; k_is)
    (case nGridgap => dsimp only [My.cl_mk]; k_is)
    (case nGridlane => dsimp only [My.cl_mk]; k_is)
    (case nGridstands => dsimp only [My.cl_mk]; k_is)
    (case nGridstyle => dsimp only [My.cl_mk]; k_is)
    (case a1 => k_is)
    (case l1 => k_is)
    (case c1 => k_is)
    (case k1 => k_is)
    (case a2 => k_is)
    (case l2 => k_is)
    (case c2 => k_is)
    (case k2 => k_is)
    (case a3 => k_is)
    (case l3 => k_is)
    (case c3 => k_is)
    (case k3 => k_is)
    (case a4 => k_is)
    (case l4 => k_is)
    (case c4 => k_is)
    (case k4 => k_is)
    (case a5 => k_is)
    (case l5 => k_is)
    (case c5 => k_is)
    (case k5 => k_is)
    (case a6 => k_is)
    (case l6 => k_is)
    (case c6 => k_is)
    (case k6 => k_is)
    (case a7 => k_is)
    (case l7 => k_is)
    (case c7 => k_is)
    (case k7 => k_is)
    (case a8 => k_is)
    (case l8 => k_is)
    (case c8 => k_is)
    (case k8 => k_is)
    (case a9 => k_is)
    (case l9 => k_is)
    (case c9 => k_is)
    (case k9 => k_is)
    (case a10 => k_is)
    (case l10 => k_is)
    (case c10 => k_is)
    (case k10 => k_is)
    (case a11 => k_is)
    (case l11 => k_is)
    (case c11 => k_is)
    (case k11 => k_is)
    (case a12 => k_is)
    (case l12 => k_is)
    (case c12 => k_is)
    (case k12 => k_is)
    (case a13 => k_is)
    (case l13 => k_is)
    (case c13 => k_is)
    (case k13 => k_is)
    (case a14 => k_is)
    (case l14 => k_is)
    (case c14 => k_is)
    (case k14 => k_is)
    (case a15 => k_is)
    (case l15 => k_is)
    (case c15 => k_is)
    (case k15 => k_is)
    (case a16 => k_is)
    (case l16 => k_is)
    (case c16 => k_is)
    (case k16 => k_is)
    (case a17 => k_is)
    (case l17 => k_is)
    (case c17 => k_is)
    (case k17 => k_is)
    (case iStyle_init0 => dsimp only [My.cl_mk]; k_is)
    (case iStyle_init1 => (try dsimp only [My.cl_mk]); k_is)
    (case iStyle_init2 => (try dsimp only [My.cl_mk]); k_is)
    (case iStyle_init3 => (try dsimp only [My.cl_mk]); k_is)
    (case iStyle_init4 => (try dsimp only [My.cl_mk]); k_is)
    (case iStyle_init5 => (try dsimp only [My.cl_mk]); k_is)
    (case iStyle_init6 => (try dsimp only [My.cl_mk]); k_is)
    (case wStyle_init0 => k_is)
    (case xStyle_init0 => first | exact rfl | exact ⟨_, rfl⟩)
    (case wStyle_init1 => k_is)
    (case xStyle_init1 => first | exact rfl | exact ⟨_, rfl⟩)
    (case wStyle_init2 => k_is)
    (case xStyle_init2 => first | exact rfl | exact ⟨_, rfl⟩)
    (case wStyle_init3 => k_is)
    (case xStyle_init3 => first | exact rfl | exact ⟨_, rfl⟩)
    (case wStyle_init4 => k_is)
    (case xStyle_init4 => first | exact rfl | exact ⟨_, rfl⟩)
    (case wStyle_init5 => k_is)
    (case xStyle_init5 => first | exact rfl | exact ⟨_, rfl⟩)
    (case wStyle_init6 => k_is)
    (case xStyle_init6 => first | exact rfl | exact ⟨_, rfl⟩)
    (case wStyle_init7 => k_is)
    (case xStyle_init7 => first | exact rfl | exact ⟨_, rfl⟩)
    (case wStyle_init8 => k_is)
    (case xStyle_init8 => first | exact rfl | exact ⟨_, rfl⟩)
    (case wStyle_init9 => k_is)
    (case xStyle_init9 => first | exact rfl | exact ⟨_, rfl⟩)
    (case a18 => k_is)
    (case l18 => k_is)
    (case c18 => k_is)
    (case k18 => k_is)
    (case a19 => k_is)
    (case l19 => k_is)
    (case c19 => k_is)
    (case k19 => k_is)
    (case a20 => k_is)
    (case l20 => k_is)
    (case c20 => k_is)
    (case k20 => k_is)
    (case a21 => k_is)
    (case l21 => k_is)
    (case c21 => k_is)
    (case k21 => k_is)
    (case a22 => k_is)
    (case l22 => k_is)
    (case c22 => k_is)
    (case k22 => k_is)
    (case a23 => k_is)
    (case l23 => k_is)
    (case c23 => k_is)
    (case k23 => k_is)
    (case a24 => k_is)
    (case l24 => k_is)
    (case c24 => k_is)
    (case k24 => k_is)
    (case iWords_init0 => dsimp only [My.cl_mk]; k_is)
    (case iWords_init1 => (try dsimp only [My.cl_mk]); k_is)
    (case iWords_init2 => (try dsimp only [My.cl_mk]); k_is)
    (case iWords_init3 => (try dsimp only [My.cl_mk]); k_is)
    (case iWords_init4 => (try dsimp only [My.cl_mk]); k_is)
    (case iWords_init5 => (try dsimp only [My.cl_mk]); k_is)
    (case iWords_init6 => (try dsimp only [My.cl_mk]); k_is)
    (case wWords_init0 => k_is)
    (case xWords_init0 => first | exact rfl | exact ⟨_, rfl⟩)
    (case iGrid_init0 => dsimp only [My.cl_mk]; k_is)
    (case iGrid_init1 => (try dsimp only [My.cl_mk]); k_is)
    (case iGrid_init2 => (try dsimp only [My.cl_mk]); k_is)
    (case iGrid_init3 => (try dsimp only [My.cl_mk]); k_is)
    (case iGrid_init4 => (try dsimp only [My.cl_mk]); k_is)
    (case iGrid_init5 => (try dsimp only [My.cl_mk]); k_is)
    (case iGrid_init6 => (try dsimp only [My.cl_mk]); k_is)
    (case wGrid_init0 => k_is)
    (case xGrid_init0 => first | exact rfl | exact ⟨_, rfl⟩)
    (case wGrid_init1 => k_is)
    (case xGrid_init1 => first | exact rfl | exact ⟨_, rfl⟩)
    (case wGrid_init2 => k_is)
    (case xGrid_init2 => first | exact rfl | exact ⟨_, rfl⟩)
    (case wGrid_init3 => k_is)
    (case xGrid_init3 => first | exact rfl | exact ⟨_, rfl⟩)
    (case a25 => k_is)
    (case l25 => k_is)
    (case c25 => k_is)
    (case k25 => k_is)
    (case a26 => k_is)
    (case l26 => k_is)
    (case c26 => k_is)
    (case k26 => k_is)
    (case a27 => k_is)
    (case l27 => k_is)
    (case c27 => k_is)
    (case k27 => k_is)
    (case a28 => k_is)
    (case l28 => k_is)
    (case c28 => k_is)
    (case k28 => k_is)
    (case a29 => k_is)
    (case l29 => k_is)
    (case c29 => k_is)
    (case k29 => k_is)
    (case a30 => k_is)
    (case l30 => k_is)
    (case c30 => k_is)
    (case k30 => k_is)
    (case a31 => k_is)
    (case l31 => k_is)
    (case c31 => k_is)
    (case k31 => k_is)
    (case a32 => k_is)
    (case l32 => k_is)
    (case c32 => k_is)
    (case k32 => k_is)
    (case a33 => k_is)
    (case l33 => k_is)
    (case c33 => k_is)
    (case k33 => k_is)
    (case a34 => k_is)
    (case l34 => k_is)
    (case c34 => k_is)
    (case k34 => k_is)
    (case a35 => k_is)
    (case l35 => k_is)
    (case c35 => k_is)
    (case k35 => k_is)
    (case a36 => k_is)
    (case l36 => k_is)
    (case c36 => k_is)
    (case k36 => k_is)
    (case a37 => k_is)
    (case l37 => k_is)
    (case c37 => k_is)
    (case k37 => k_is)
    (case a38 => k_is)
    (case l38 => k_is)
    (case c38 => k_is)
    (case k38 => k_is)
    (case a39 => k_is)
    (case l39 => k_is)
    (case c39 => k_is)
    (case k39 => k_is)
    (case a40 => k_is)
    (case l40 => k_is)
    (case c40 => k_is)
    (case k40 => k_is)
    (case z_ValueError => k_is)
    (case z_all => k_is)
    (case z_any => k_is)
    (case z_bool => k_is)
    (case z_enumerate => k_is)
    (case z_int => k_is)
    (case z_isinstance => k_is)
    (case z_len => k_is)
    (case z_list => k_is)
    (case z_max => k_is)
    (case z_min => k_is)
    (case z_range => k_is)
    (case z_str => k_is)
    (case z_tuple => k_is)
    (case v_NO_RIMS => k_is)
    (case v_SIDES => k_is)
    (case v_STANDS => k_is)
    (case v_LETTERS => k_is)
    (case v_LONGEST => k_is)
    (case tNO_RIMS0 => k_is)
    (case tNO_RIMS1 => rfl)
    (case tNO_RIMS2 => rfl)
    (case tNO_RIMS3 => decide +kernel)
    (case tNO_RIMS4 => exact .cons ⟨_, rfl⟩ (.cons ⟨_, rfl⟩ (.cons ⟨_, rfl⟩ (.cons ⟨_, rfl⟩ (.nil)))))
    (case tSIDES0 => k_is)
    (case tSIDES1 => rfl)
    (case tSIDES2 => rfl)
    (case tSIDES3 => decide +kernel)
    (case tSIDES4 => exact .cons ⟨_, rfl⟩ (.cons ⟨_, rfl⟩ (.nil)))
    (case tSTANDS0 => k_is)
    (case tSTANDS1 => rfl)
    (case tSTANDS2 => rfl)
    (case tSTANDS3 => decide +kernel)
    (case tSTANDS4 => exact .cons ⟨_, rfl⟩ (.cons ⟨_, rfl⟩ (.cons ⟨_, rfl⟩ (.cons ⟨_, rfl⟩ (.cons ⟨_, rfl⟩ (.nil))))))
    (case r_LETTERS => exact ⟨_, rfl⟩)
    (case r_LONGEST => exact ⟨_, rfl⟩)
    (case eNestError0 => k_is)
    (case eNestError1 => k_exc)
    (case eNestError2 => k_is)
    (case eNestError3 => k_is)
    (case eNestError4 => k_is)
    (case eNestError5 => k_is)
    (case eNestError6 => k_is)
    (case eNestError7 => k_is)
    (case eNestError8 => k_is)
    (case eNestError9 => k_is)
    (case eNestError10 => k_is)
    (case eNestError11 => k_is)
    (case eNoSpot0 => k_is)
    (case eNoSpot1 => k_exc)
    (case eNoSpot2 => k_is)
    (case eNoSpot3 => k_is)
    (case eNoSpot4 => k_is)
    (case eNoSpot5 => k_is)
    (case eNoSpot6 => k_is)
    (case eNoSpot7 => k_is)
    (case eNoSpot8 => k_is)
    (case eNoSpot9 => k_is)
    (case eNoSpot10 => k_is)
    (case eNoSpot11 => k_is)
    (case r_NoSpot => (try dsimp only [My.ex_mk, My.ec_mk, My.cl_mk]); k_is)
    (case s_NoSpot => (try dsimp only [My.ex_mk, My.ec_mk, My.cl_mk]); k_is)
    (case v_NoSpot => (try dsimp only [My.ex_mk, My.ec_mk, My.cl_mk]); k_is)
    (case eNoBox0 => k_is)
    (case eNoBox1 => k_is)
    (case eNoBox2 => k_is)
    (case i_NoBox => (try dsimp only [My.ex_mk, My.ec_mk, My.cl_mk]); k_is)
    (case eNoTrack0 => k_is)
    (case eNoTrack1 => k_is)
    (case eNoTrack2 => k_is)
    (case i_NoTrack => (try dsimp only [My.ex_mk, My.ec_mk, My.cl_mk]); k_is)
    (case eNoNumber0 => k_is)
    (case eNoNumber1 => k_is)
    (case eNoNumber2 => k_is)
    (case i_NoNumber => (try dsimp only [My.ex_mk, My.ec_mk, My.cl_mk]); k_is)
    (case eNoStyle0 => k_is)
    (case eNoStyle1 => k_is)
    (case eNoStyle2 => k_is)
    (case i_NoStyle => (try dsimp only [My.ex_mk, My.ec_mk, My.cl_mk]); k_is)
    (case ww => (try dsimp only [My.ex_mk, My.ec_mk, My.cl_mk]); k_is)
    (case wb => (try dsimp only [My.ex_mk, My.ec_mk, My.cl_mk]); k_is)
    (case bt => (try dsimp only [My.ex_mk, My.ec_mk, My.cl_mk]); k_is)
    (case wc => (try dsimp only [My.ex_mk, My.ec_mk, My.cl_mk]); k_is)
    (case wg => (try dsimp only [My.ex_mk, My.ec_mk, My.cl_mk]); k_is)
    (case wt => (try dsimp only [My.ex_mk, My.ec_mk, My.cl_mk]); k_is)
    (case wm => (try dsimp only [My.ex_mk, My.ec_mk, My.cl_mk]); k_is)
#print axioms PySem.Challenge.cw_nestlaid_k20_whole_spots_of_grids_holds
