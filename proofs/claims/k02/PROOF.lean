import PyProof.Rows.All
import Wide.All
import OpenK.AllK
import Wide.FinOn
import HandS.ForMost
import HandS.ForExc
import HandS.Wide
import HandS.IsInst
import HandS.Defaults
import HandS.MakeKwOnly
import HandS.Flow
import HandS.EndBits
import HandS.Style
import HandS.Conv
import HandS.Deep
import HandS.ExcIs
import HandS.ExcOwn
import HandS.WordsExc
import HandS.DeepEq
import HandS.More
import PyProof.NeKinds
import PyProof.FactsAll.subtypes_4
import PyProof.FactsAll.dict_2
import PySem.Challenge.RW_nestlaid_k02_what_cannot_be_dealt
set_option Elab.async false
set_option linter.all false
set_option maxRecDepth 100000
set_option maxHeartbeats 4000000
namespace My
open PySem PySem.Spec PyProof.Rows L2
/-! ### a def of the top, with its facts -/
structure Df (K : PySem.W.Frag) (mg : Str → Option Value) (x : Str) (st : Stmt) (ps : List Str) where
  f : Addr
  fd : FuncData
  F : Fun K x x st f fd
  b : Binds K fd ps []
  g : mg x = some (.ref f)
def df_mk {K : PySem.W.Frag} {mg : Str → Option Value} {x : Str} {st : Stmt} {ps : List Str} {h : Heap} (X : K.In h) (G : h.Ns mainGlobals mg) {f : Addr} {oc : Value} {od an : Option Addr} {osl : Array (Option Value)} {kV doc pm cdv ct : Value}
    (a : PySem.W.nsIn K mainGlobals x = some (some (.ref f))) (l : K.lookup f = some ⟨oc, od, .func (PySem.W.fnOf x x (defArgs st) (defBody st) (defScope st) .none kV doc pm an cdv ct), osl⟩)
    (c : PySem.W.codeIn K cdv x = true) (k : PySem.W.keepIn K (.ref f) = true)
    (hb : ∀ (kV doc pm : Value) (an : Option Addr) (cdv ct : Value) (us : List Value), us.length = ps.length → bindArgs (PySem.W.fnOf x x (defArgs st) (defBody st) (defScope st) .none kV doc pm an cdv ct) ⟨us, []⟩ = pure (ps.zip us)) : Df K mg x st ps :=
  ⟨f, _, fun_mk l c k, (fun_mk l c k).binds hb, PySem.W.mg_of X G a⟩
/-! ### calls by keywords alone -/
theorem vals_getD : ∀ {zs : List V} {ws : List Value}, Vals zs ws → ∀ i : Nat, RelV (zs.getD i .non) (ws.getD i .none)
  | _, _, .nil, i => rfl
  | _, _, .cons r t, 0 => r
  | _, _, .cons r t, i + 1 => by simpa using vals_getD t i
section
variable {X : Cx} {CX : CXT} {k n : Nat} {f C : Addr} {fd : FuncData} {ps ks : List Str} {sp : Sp} {E : XK} {x : Str} {p pos : Pos} {kws : List Keyword} {t tk : TA} {g : List Value → List Value → List Value} {gV : List V → List V → List V}
/-- f(k = v, ..) -/
theorem pe_callN0 (F : FnOk X.prog X.w X.K X.mg X.base CX k f fd ps sp) (hr : Room k X.A) (hg : Gl X x) (hm : X.mg x = some (.ref f)) (hk : PySem.W.keepIn X.K (.ref f) = true) (hb : KBn X.K fd ps 0 ks g gV) (hx : Passes CX X E) (hkw : PK X kws tk)
    (hall : (backToKw pos (keywordEach kws X.env)).all (·.1.isSome) = true := by rfl) (hks : (backToKw pos (keywordEach kws X.env)).filterMap (·.1) = ks := by rfl) (hdb : (x == ("__debug__" : Str)) = false := by decide)
    (hpl : ((backTo pos (starEach [] X.env)).any (·.1) || (backToKw pos (keywordEach kws X.env)).any (·.1.isNone)) = false := by rfl) :
    PE X (.Call (.Name x p) [] kws pos) (tCallN 0 ks.length sp gV E tNil tk) := by
  refine ⟨fun pins s σ H Q I h => ?_⟩
  refine wpAny_Call_Name_kw (ld_glob I hg hm ?_ hdb)
  refine PySem.W.callWith_KW0 (h₀ := X.base) I.ok.mod.kin hk hall ?_ hpl
  refine thn (hkw.run pos pins s σ H _ I h) fun ws s2 ⟨zs, H2, I2, rz, l1, l2, q2⟩ => ⟨I2.kIn, ?_⟩
  rw [hks]
  exact run_fnN (us := []) (vs := []) F hr hb hx I2 .nil rz rfl l2 q2
end
/-! ### heaps -/
/-- all that was tracked but at a is as it was -/
def But (a : Addr) (H H' : Hp) : Prop := ∀ b o, b ≠ a → H b = some o → H' b = some o
theorem But.app {a b : Addr} {H H' : Hp} {o : HO} (s : But a H H') (n : b ≠ a) (h : H b = some o) : H' b = some o := s _ _ n h
theorem But.refl {a : Addr} {H : Hp} : But a H H := fun _ _ _ h => h
theorem But.trans {a : Addr} {H H1 H2 : Hp} (s : But a H H1) (t : But a H1 H2) : But a H H2 := fun b o n h => t b o n (s b o n h)
theorem But.upd {a : Addr} {H H1 : Hp} {o : HO} (s : But a H H1) : But a H (upd H1 a o) := fun b u n h => by
  rw [upd_ne n]
  exact s b u n h
theorem But.new {a p : Addr} {H H1 : Hp} {o : HO} (s : But a H H1) (h : H1 p = none) : But a H (L2.upd H1 p o) := fun b u n e => by
  have e1 := s b u n e
  rw [upd_ne (ne_of_none e1 h)]
  exact e1
theorem Same.but {a : Addr} {H H1 : Hp} (s : Same H H1) : But a H H1 := fun b u n h => s b u h
theorem Same.app {b : Addr} {H H' : Hp} {o : HO} (s : Same H H') (h : H b = some o) : H' b = some o := s _ _ h
theorem Same.new {H H1 : Hp} {p : Addr} {o : HO} (s : Same H H1) (h : H1 p = none) : Same H (upd H1 p o) := fun b u e => by
  have e1 := s b u e
  rw [upd_ne (ne_of_none e1 h)]
  exact e1
theorem Same.mut {H H1 : Hp} {p : Addr} {o : HO} (s : Same H H1) (h : H p = none) : Same H (upd H1 p o) := fun b u e => by
  rw [upd_ne (ne_of_none e h)]
  exact s b u e
theorem But.seq {K : PySem.W.Frag} {H H' : Hp} {a b : Addr} {xs : List V} (e : But a H H') (n : b ≠ a) (h : SqL K H b xs) : SqL K H' b xs := by
  rcases h with (h | ⟨o, h⟩) | h
  · exact .inl (.inl (e _ _ n h))
  · exact .inl (.inr ⟨o, e _ _ n h⟩)
  · exact .inr h
theorem upd_keep {H : Hp} {a p : Addr} {o u : HO} (n : H p = none) (h : H a = some o) : upd H p u a = some o := (upd_ne (ne_of_none h n)).trans h
theorem Same.upd0 {H : Hp} {p : Addr} {o : HO} (n : H p = none) : Same H (upd H p o) := fun b u e => upd_keep n e
theorem sqL {K : PySem.W.Frag} {H : Hp} {a : Addr} {xs : List V} (h : H a = some (.lst xs)) : SqL K H a xs := .inl (.inl h)
theorem sqT {K : PySem.W.Frag} {H : Hp} {a : Addr} {xs : List V} (h : H a = some (.tup xs)) : SqT K H a xs := .inl (.inl h)
/-! ### new and changed objects, the heap behind them by a name -/
def New (H : Hp) (o : HO) (Q : VK) : Prop := ∀ p H', H p = none → Same H H' → H' p = some o → Q (.ref p) H'
theorem New.go {H : Hp} {o : HO} {Q : VK} (h : New H o Q) : ∀ p, H p = none → Q (.ref p) (upd H p o) := fun p n => h p _ n (Same.upd0 n) upd_same
/-- what stands at l becomes o -/
def Set1 (H : Hp) (l : Addr) (o : HO) (q : Hp → Prop) : Prop := ∀ H', But l H H' → H' l = some o → q H'
theorem Set1.go {H : Hp} {l : Addr} {o : HO} {q : Hp → Prop} (h : Set1 H l o q) : q (upd H l o) := h _ But.refl.upd upd_same
theorem pe_imp {X : Cx} {e : Expr} {t t' : TE} (h : PE X e t) (i : ∀ σ H Q, t' σ H Q → t σ H Q) : PE X e t' := ⟨fun pins s σ H Q I h' => h.run pins s σ H Q I (i _ _ _ h')⟩
theorem opR_imp {X : Cx} {f : Value → Value → Sem Value} {r r' : R2} (h : OpR X f r) (i : ∀ x y H Q, r' x y H Q → r x y H Q) : OpR X f r' := fun pins s σ H x y v u Q I rx ry q => h pins s σ H x y v u Q I rx ry (i _ _ _ _ q)
theorem callR_imp {X : Cx} {f : Value} {r r' : List V → Hp → VK → Prop} (h : CallR X f r) (i : ∀ xs H Q, r' xs H Q → r xs H Q) : CallR X f r' := fun pins s σ H xs us Q I rx q => h pins s σ H xs us Q I rx (i _ _ _ q)
theorem slR_imp {X : Cx} {r r' : V → Option Int → Option Int → Hp → VK → Prop} (h : SlR X r) (i : ∀ x lo hi H Q, r' x lo hi H Q → r x lo hi H Q) : SlR X r' := fun pins s σ H x v vl vu lo hi sl Q I rx a b c q => h pins s σ H x v vl vu lo hi sl Q I rx a b c (i _ _ _ _ _ q)
theorem mtM_imp {X : Cx} {id : String} {r r' : V → List V → Hp → VK → Prop} (h : MtM X id r) (i : ∀ x xs H Q, r' x xs H Q → r x xs H Q) : MtM X id r' := fun pins s σ H x xs v us Q I rx rv q => h pins s σ H x xs v us Q I rx rv (i _ _ _ _ q)
theorem pSet_imp {X : Cx} {r r' : TSet} (h : PSet X r) (i : ∀ x y z H Q, r' x y z H Q → r x y z H Q) : PSet X r' := fun pins s σ H o i' v ov iv u Q I a b c q => h pins s σ H o i' v ov iv u Q I a b c (i _ _ _ _ _ q)
section
variable {X : Cx} {es : List Expr} {t : TA} {pos : Pos}
/-- a tuple, a list -/
def tTupA (t : TA) : TE := fun σ H Q => t σ H fun xs H1 => xs.length ≤ sizeLine ∧ New H1 (.tup xs) Q
def tLstA (t : TA) : TE := fun σ H Q => t σ H fun xs H1 => xs.length ≤ sizeLine ∧ New H1 (.lst xs) Q
theorem pe_tupA {x1} (h : PA X es t) : PE X (.Tuple es x1 pos) (tTupA t) := by
  refine ⟨fun pins s σ H Q I hq => ?_⟩
  refine wpAny_Tuple_spliced (thn (h.run pos pins s σ H _ I hq) fun us s1 ⟨xs, H1, I1, r, z, q⟩ => ⟨by rw [← r.length]; exact z, ?_⟩)
  have hf : H1 s1.heap.objs.size = none := I1.hok.fresh (Nat.le_refl _)
  refine ⟨.ref s1.heap.objs.size, upd H1 s1.heap.objs.size (.tup xs), I1.laid (t' := s1.toks) (fun b u e => Heap.get?_push_of_some _ e) (Nat.le_refl _) ?_, rfl, q.go _ hf⟩
  exact ⟨z, us, r, ⟨_, Heap.get?_push_size _ rfl, rfl, _, rfl⟩⟩
theorem pe_lstA (h : PA X es t) : PE X (.List es pos) (tLstA t) := by
  refine ⟨fun pins s σ H Q I hq => ?_⟩
  refine wpAny_List_spliced (thn (h.run pos pins s σ H _ I hq) fun us s1 ⟨xs, H1, I1, r, z, q⟩ => ⟨by rw [← r.length]; exact z, ?_⟩)
  have hf : H1 s1.heap.objs.size = none := I1.hok.fresh (Nat.le_refl _)
  refine ⟨.ref s1.heap.objs.size, upd H1 s1.heap.objs.size (.lst xs), I1.laid (t' := s1.toks) (fun b u e => Heap.get?_push_of_some _ e) (Nat.le_refl _) ?_, rfl, q.go _ hf⟩
  exact ⟨z, us, 0, r, Heap.get?_push_size _ rfl⟩
def tDNewA : TE := fun _ H Q => New H (.dK []) Q
theorem pe_dnewA : PE X (.Dict [] [] pos) tDNewA := pe_imp pe_dnewK fun _ _ _ h => h.go
/-- list + list, list * n -/
def rCatA (K : PySem.W.Frag) : R2 := fun x y H Q => ∃ l b xs zs, x = .ref l ∧ y = .ref b ∧ H l = some (.lst xs) ∧ H b = some (.lst zs) ∧ xs.length + zs.length ≤ sizeLine ∧ New H (.lst (xs ++ zs)) Q
theorem op_catA : OpR X (binaryOp .Add) (rCatA X.K) := opR_imp op_cat fun _ _ _ _ ⟨l, b, xs, zs, e1, e2, h1, h2, z, q⟩ => ⟨l, b, xs, zs, e1, e2, h1, h2, z, q.go⟩
def rRepA : R2 := fun x y H Q => ∃ l k xs, x = .ref l ∧ y = .int k ∧ H l = some (.lst xs) ∧ -(2 ^ 63) ≤ k ∧ k < 2 ^ 63 ∧ xs.length * k.toNat ≤ sizeLine ∧ New H (.lst (List.replicate k.toNat xs).flatten) Q
theorem op_repA : OpR X (binaryOp .Mult) rRepA := opR_imp op_rep fun _ _ _ _ ⟨l, k, xs, e1, e2, h1, h2, h3, z, q⟩ => ⟨l, k, xs, e1, e2, h1, h2, h3, z, q.go⟩
def rSlA (K : PySem.W.Frag) : V → Option Int → Option Int → Hp → VK → Prop := fun x lo hi H Q => ∃ a xs, x = .ref a ∧ SqL K H a xs ∧ New H (.lst (cutV xs lo hi)) Q
theorem sl_listA : SlR X (rSlA X.K) := slR_imp sl_list fun _ _ _ _ _ ⟨a, xs, e, h1, q⟩ => ⟨a, xs, e, h1, q.go⟩
def rListA (K : PySem.W.Frag) : List V → Hp → VK → Prop := fun xs H Q => ∃ p ys, xs = [.ref p] ∧ (SqL K H p ys ∨ SqT K H p ys) ∧ New H (.lst ys) Q
theorem call_listA : CallR X (.type "list") (rListA X.K) := callR_imp call_list_of fun _ _ _ ⟨p, ys, e, h, q⟩ => ⟨p, ys, e, h, q.go⟩
/-- tuple(a list) -/
def rTupLA (K : PySem.W.Frag) : List V → Hp → VK → Prop := fun xs H Q => ∃ p ys, xs = [.ref p] ∧ SqL K H p ys ∧ New H (.tup ys) Q
theorem call_tupLA : CallR X (.type "tuple") (rTupLA X.K) := callR_imp call_tuple_of fun _ _ _ ⟨p, ys, e, h, q⟩ => ⟨p, ys, e, .inl ⟨h, q.go⟩⟩
def rSetA : V → V → V → Hp → (Hp → Prop) → Prop := fun o i v H Q => ∃ p xs k j, o = .ref p ∧ i = .int k ∧ H p = some (.lst xs) ∧ ixN xs.length k = some j ∧ Set1 H p (.lst (xs.set j v)) Q
theorem set_listA : PSet X rSetA := pSet_imp set_list fun _ _ _ _ _ ⟨p, xs, k, j, e1, e2, h1, h2, q⟩ => ⟨p, xs, k, j, e1, e2, h1, h2, q.go⟩
def rAppendA : V → List V → Hp → VK → Prop := fun x vs H Q => ∃ l xs y, x = .ref l ∧ vs = [y] ∧ H l = some (.lst xs) ∧ xs.length < sizeLine ∧ Set1 H l (.lst (xs ++ [y])) (Q .non)
def rClearA : V → List V → Hp → VK → Prop := fun x vs H Q => ∃ l xs, x = .ref l ∧ vs = [] ∧ H l = some (.lst xs) ∧ Set1 H l (.lst []) (Q .non)
theorem mt_clearA : MtM X "list.clear" rClearA := mtM_imp mt_clear fun _ _ _ _ ⟨l, xs, e1, e2, h1, q⟩ => ⟨l, xs, e1, e2, h1, q.go⟩
theorem mt_appendA : MtM X "list.append" rAppendA := mtM_imp mt_append fun _ _ _ _ ⟨l, xs, y, e1, e2, h1, h2, q⟩ => ⟨l, xs, y, e1, e2, h1, h2, q.go⟩
end
theorem cutV_mem {xs : List V} {lo hi : Option Int} {x : V} (h : x ∈ cutV xs lo hi) : x ∈ xs := List.mem_of_mem_drop (List.mem_of_mem_take h)
theorem int_of_map {ns : List Int} {i : Nat} {y : V} (h : (ns.map V.int)[i]? = some y) : ∃ z, ns[i]? = some z ∧ y = .int z := by
  rw [List.getElem?_map] at h
  cases e : ns[i]? with
  | none => rw [e] at h; cases h
  | some z => rw [e] at h; exact ⟨z, rfl, (Option.some.inj h).symm⟩
/-- the law's numbers: the first one (0 without), and some more -/
theorem cells_ints {c : Int} {ns : List Int} {lo hi : Option Int} {i : Nat} {y : V} (h : ([V.int c] ++ cutV (ns.map V.int) lo hi)[i]? = some y) : ∃ z, y = .int z := by
  have m := List.mem_of_getElem? h
  rcases List.mem_append.mp m with m | m
  · exact ⟨c, by simpa using m⟩
  · have m2 := cutV_mem m
    obtain ⟨z, _, e⟩ := List.mem_map.mp m2
    exact ⟨z, e.symm⟩
theorem cells_len {ns : List Int} {lo hi : Option Int} (h : ns.length ≤ 63) : ([V.int 0] : List V).length + (cutV (ns.map V.int) lo hi).length ≤ sizeLine := by
  have h1 := cutV_length (ns.map V.int) lo hi
  rw [List.length_map] at h1
  exact Nat.le_trans (by show 1 + _ ≤ 100; omega) (by decide)
/-! ### kinds -/
def isI : V → Bool
  | .int _ => true
  | _ => false
def isN : V → Bool
  | .int i => decide (0 ≤ i)
  | _ => false
def isB : V → Bool
  | .bl _ => true
  | _ => false
/-- a value of one of the plain kinds -/
inductive Ty7 (H : Hp) : V → String → Prop where
  | non : Ty7 H .non "NoneType"
  | bl (b : Bool) : Ty7 H (.bl b) "bool"
  | int (i : Int) : Ty7 H (.int i) "int"
  | str (x : Str) : Ty7 H (.str x) "str"
  | lst {a : Addr} {xs : List V} (h : H a = some (.lst xs)) : Ty7 H (.ref a) "list"
  | tup {a : Addr} {xs : List V} (h : H a = some (.tup xs)) : Ty7 H (.ref a) "tuple"
  | dK {a : Addr} {xs : List (Key × V)} (h : H a = some (.dK xs)) : Ty7 H (.ref a) "dict"
section
variable {K : PySem.W.Frag} {H H' : Hp} {x : V} {t : String}
theorem Ty7.tx (h : Ty7 H x t) : TyX K H x (.type t) := by
  cases h with
  | non => exact .base .non
  | bl b => exact .base (.bl b)
  | int i => exact .base (.int i)
  | str i => exact .base (.str i)
  | lst h => exact .base (.lst h)
  | tup h => exact .base (.tup h)
  | dK h => exact .base (.dK h)
theorem Ty7.ki (h : Ty7 H x t) : kitB t "int" = some (isI x || isB x) := by
  cases h <;> (simp only [isI, isB]; decide +kernel)
theorem Ty7.kb (h : Ty7 H x t) : kitB t "bool" = some (isB x) := by
  cases h <;> (simp only [isB]; decide +kernel)
theorem Ty7.kl (h : Ty7 H x t) : kitB t "list" = some (decide (t = "list")) := by
  cases h <;> decide +kernel
theorem Ty7.kt (h : Ty7 H x t) : kitB t "tuple" = some (decide (t = "tuple")) := by
  cases h <;> decide +kernel
theorem Ty7.ks (h : Ty7 H x t) : kitB t "str" = some (decide (t = "str")) := by
  cases h <;> decide +kernel
theorem Ty7.mono (h : Ty7 H x t) (s : Same H H') : Ty7 H' x t := by
  cases h with
  | non => exact .non
  | bl b => exact .bl b
  | int i => exact .int i
  | str i => exact .str i
  | lst h => exact .lst (s _ _ h)
  | tup h => exact .tup (s _ _ h)
  | dK h => exact .dK (s _ _ h)
end
theorem isI_of : ∀ {x : V}, isI x = true → ∃ i, x = .int i
  | .int i, _ => ⟨i, rfl⟩
theorem isI_bool {x : V} (h : (isI x || isB x) = true) : (!isB x) = isI x := by
  cases x <;> simp_all [isI, isB]
theorem isI_no {x : V} (h : ¬ (isI x || isB x) = true) : false = isI x := by
  cases x <;> simp_all [isI, isB]
def heldM (n l : Int) (m : Option Int) : Int := max (match m with | some m => min n m | none => n) l
def optI : Option Int → V
  | some i => .int i
  | none => .non
/-- the law's source of draws: three whole numbers -/
def src (s : Int × Int × Int) : HO := .lst [.int s.1, .int s.2.1, .int s.2.2]
/-! ### draws: only the source at a changes -/
def Src (H : Hp) (a : Addr) : Prop := ∃ s, H a = some (src s)
structure Dr (a : Addr) (H H' : Hp) : Prop where
  s : Src H' a
  b : But a H H'
theorem Dr.app {a b : Addr} {H H' : Hp} {o : HO} (d : Dr a H H') (n : b ≠ a) (h : H b = some o) : H' b = some o := d.b _ _ n h
theorem Dr.trans {a : Addr} {H H1 H2 : Hp} (d : Dr a H H1) (e : Dr a H1 H2) : Dr a H H2 := ⟨e.s, d.b.trans e.b⟩
theorem Dr.same {a : Addr} {H H1 H2 : Hp} (d : Dr a H H1) (e : Same H1 H2) : Dr a H H2 := ⟨let ⟨s, h⟩ := d.s; ⟨s, e _ _ h⟩, d.b.trans (Same.but e)⟩
theorem Dr.of {a : Addr} {H H1 : Hp} (h : Src H a) (e : Same H H1) : Dr a H H1 := ⟨let ⟨s, h⟩ := h; ⟨s, e _ _ h⟩, Same.but e⟩
theorem Dr.refl {a : Addr} {H : Hp} (h : Src H a) : Dr a H H := ⟨h, But.refl⟩
/-- a list that was not there may change -/
theorem Dr.mut {a l : Addr} {H H1 H2 : Hp} (d : Dr a H H1) (e : But l H1 H2) (n : H l = none) (na : a ≠ l) : Dr a H H2 :=
  ⟨let ⟨s, h⟩ := d.s; ⟨s, e _ _ na h⟩, fun b o nb h => e _ _ (ne_of_none h n) (d.b _ _ nb h)⟩
theorem Same.mut' {l : Addr} {H H1 H2 : Hp} (d : Same H H1) (e : But l H1 H2) (n : H l = none) : Same H H2 := fun b o h => e _ _ (ne_of_none h n) (d _ _ h)
theorem Src.same {a : Addr} {H H1 : Hp} (h : Src H a) (e : Same H H1) : Src H1 a := let ⟨s, h⟩ := h; ⟨s, e _ _ h⟩
theorem Src.but {a l : Addr} {H H1 : Hp} (h : Src H a) (e : But l H H1) (n : a ≠ l) : Src H1 a := let ⟨s, h⟩ := h; ⟨s, e _ _ n h⟩
theorem Src.ne {a p : Addr} {H : Hp} (h : Src H a) (n : H p = none) : p ≠ a := let ⟨_, h⟩ := h; (ne_of_none h n).symm
theorem Src.of {a : Addr} {H : Hp} {s : Int × Int × Int} (h : H a = some (src s)) : Src H a := ⟨s, h⟩
theorem Dr.free {a l : Addr} {H H' : Hp} (d : Dr a H H') (h : H' l = none) (n : l ≠ a) : H l = none := by
  cases q : H l with
  | none => rfl
  | some o => rw [d.b _ _ n q] at h; cases h
theorem Dr.seq {K : PySem.W.Frag} {H H' : Hp} {a b : Addr} {xs : List V} (e : Dr a H H') (n : b ≠ a) (h : SqL K H b xs) : SqL K H' b xs := e.b.seq n h
/-! ### comprehensions: P by the turn, the items so far, the heap; the item's end by a continuation of any kind -/
section
variable {K : PySem.W.Frag} {a b : Addr} {xs zs : List V} {g : TG} {tt : TT} {te : TE} {vs : List Nat} {σ : L2.St} {H1 : Hp} {D : Addr} {Qd : Hp → Prop}
/-- what an item's turn is to end in -/
abbrev LcT (g : TG) (tt : TT) (te : TE) (vs : List Nat) (σ : L2.St) (x : V) (H : Hp) (Kt : V → Hp → Prop) (Kf : Hp → Prop) : Prop :=
  g x (wipe σ vs) H fun σ2 H2 => wipe σ2 vs = wipe σ vs ∧ tt σ2 H2 fun b H3 => if b = true then te σ2 H3 Kt else Kf H3
/-- the ends of a turn -/
structure LcK (D : Addr) (P : List V → Hp → Prop) (acc : List V) (Kt : V → Hp → Prop) (Kf : Hp → Prop) : Prop where
  yes : ∀ y H4, H4 D = some (.lst acc) → acc.length < sizeLine → (∀ H5, But D H4 H5 → H5 D = some (.lst (acc ++ [y])) → P (acc ++ [y]) H5) → Kt y H4
  no : ∀ H3, H3 D = some (.lst acc) → P acc H3 → Kf H3
theorem lcL (P : Nat → List V → Hp → Prop) (h0 : ∀ H', Same H1 H' → H' D = some (.lst []) → P 0 [] H') (hD : H1 D = none) (hl : ∀ i acc H, P i acc H → SqL K H a xs)
    (hs : ∀ i x acc H Kt Kf, xs[i]? = some x → P i acc H → H D = some (.lst acc) → LcK D (P (i + 1)) acc Kt Kf → LcT g tt te vs σ x H Kt Kf)
    (hd : ∀ acc H, P xs.length acc H → H D = some (.lst acc) → Qd H) :
    ∃ W : Nat → Nat → Hp → Prop, (∃ m, W 0 m (upd H1 D (.lst []))) ∧ ∀ i m H, W i m H →
      ((Itl K a).stop i H ∧ Qd H) ∨ ((Itl K a).go i H ∧ ∃ Nx : Hp → Prop, (∀ H', Nx H' → ∃ m', m' < m ∧ W (i + 1) m' H') ∧ ∀ x H', (Itl K a).yld i H x H' → g x (wipe σ vs) H' fun σ2 H2 => wipe σ2 vs = wipe σ vs ∧ tt σ2 H2 fun b H3 =>
        if b = true then te σ2 H3 fun y H4 => ∃ acc, H4 D = some (.lst acc) ∧ acc.length < sizeLine ∧ Nx (upd H4 D (.lst (acc ++ [y]))) else Nx H3) :=
  lc_list (xs := xs) (fun i H => ∃ acc, H D = some (.lst acc) ∧ P i acc H) ⟨[], upd_same, h0 _ (Same.upd0 hD) upd_same⟩ (fun i H _ ⟨acc, _, p⟩ => hl i acc H p)
    (fun i x H hx ⟨acc, e, p⟩ => hs i x acc H _ _ hx p e ⟨fun y H4 e4 z k => ⟨acc, e4, z, acc ++ [y], upd_same, k _ But.refl.upd upd_same⟩, fun H3 e3 k => ⟨acc, e3, k⟩⟩) (fun H ⟨acc, e, p⟩ => hd acc H p e)
theorem lcT (P : Nat → List V → Hp → Prop) (h0 : ∀ H', Same H1 H' → H' D = some (.lst []) → P 0 [] H') (hD : H1 D = none) (hl : ∀ i acc H, P i acc H → SqT K H a xs)
    (hs : ∀ i x acc H Kt Kf, xs[i]? = some x → P i acc H → H D = some (.lst acc) → LcK D (P (i + 1)) acc Kt Kf → LcT g tt te vs σ x H Kt Kf)
    (hd : ∀ acc H, P xs.length acc H → H D = some (.lst acc) → Qd H) :
    ∃ W : Nat → Nat → Hp → Prop, (∃ m, W 0 m (upd H1 D (.lst []))) ∧ ∀ i m H, W i m H →
      ((Itt K a).stop i H ∧ Qd H) ∨ ((Itt K a).go i H ∧ ∃ Nx : Hp → Prop, (∀ H', Nx H' → ∃ m', m' < m ∧ W (i + 1) m' H') ∧ ∀ x H', (Itt K a).yld i H x H' → g x (wipe σ vs) H' fun σ2 H2 => wipe σ2 vs = wipe σ vs ∧ tt σ2 H2 fun b H3 =>
        if b = true then te σ2 H3 fun y H4 => ∃ acc, H4 D = some (.lst acc) ∧ acc.length < sizeLine ∧ Nx (upd H4 D (.lst (acc ++ [y]))) else Nx H3) :=
  lc_tup (xs := xs) (fun i H => ∃ acc, H D = some (.lst acc) ∧ P i acc H) ⟨[], upd_same, h0 _ (Same.upd0 hD) upd_same⟩ (fun i H _ ⟨acc, _, p⟩ => hl i acc H p)
    (fun i x H hx ⟨acc, e, p⟩ => hs i x acc H _ _ hx p e ⟨fun y H4 e4 z k => ⟨acc, e4, z, acc ++ [y], upd_same, k _ But.refl.upd upd_same⟩, fun H3 e3 k => ⟨acc, e3, k⟩⟩) (fun H ⟨acc, e, p⟩ => hd acc H p e)
theorem lcR {lo : Int} {n : Nat} (P : Nat → List V → Hp → Prop) (h0 : ∀ H', Same H1 H' → H' D = some (.lst []) → P 0 [] H') (hD : H1 D = none)
    (hs : ∀ i acc H Kt Kf, i < n → P i acc H → H D = some (.lst acc) → LcK D (P (i + 1)) acc Kt Kf → LcT g tt te vs σ (.int (lo + i)) H Kt Kf)
    (hd : ∀ acc H, P n acc H → H D = some (.lst acc) → Qd H) :
    ∃ W : Nat → Nat → Hp → Prop, (∃ m, W 0 m (upd H1 D (.lst []))) ∧ ∀ i m H, W i m H →
      ((Itr lo n).stop i H ∧ Qd H) ∨ ((Itr lo n).go i H ∧ ∃ Nx : Hp → Prop, (∀ H', Nx H' → ∃ m', m' < m ∧ W (i + 1) m' H') ∧ ∀ x H', (Itr lo n).yld i H x H' → g x (wipe σ vs) H' fun σ2 H2 => wipe σ2 vs = wipe σ vs ∧ tt σ2 H2 fun b H3 =>
        if b = true then te σ2 H3 fun y H4 => ∃ acc, H4 D = some (.lst acc) ∧ acc.length < sizeLine ∧ Nx (upd H4 D (.lst (acc ++ [y]))) else Nx H3) :=
  lc_range (fun i H => ∃ acc, H D = some (.lst acc) ∧ P i acc H) ⟨[], upd_same, h0 _ (Same.upd0 hD) upd_same⟩
    (fun i H hx ⟨acc, e, p⟩ => hs i acc H _ _ hx p e ⟨fun y H4 e4 z k => ⟨acc, e4, z, acc ++ [y], upd_same, k _ But.refl.upd upd_same⟩, fun H3 e3 k => ⟨acc, e3, k⟩⟩) (fun H ⟨acc, e, p⟩ => hd acc H p e)
/-- over enumerate: the pair is a new tuple -/
theorem lcE (P : Nat → List V → Hp → Prop) (h0 : ∀ H', Same H1 H' → H' D = some (.lst []) → P 0 [] H') (hD : H1 D = none) (hl : ∀ i acc H, P i acc H → SqL K H a xs)
    (hs : ∀ i x acc H T H' Kt Kf, xs[i]? = some x → P i acc H → H D = some (.lst acc) → H T = none → Same H H' → H' T = some (.tup [.int (i : Nat), x]) → LcK D (P (i + 1)) acc Kt Kf → LcT g tt te vs σ (.ref T) H' Kt Kf)
    (hd : ∀ acc H, P xs.length acc H → H D = some (.lst acc) → Qd H) :
    ∃ W : Nat → Nat → Hp → Prop, (∃ m, W 0 m (upd H1 D (.lst []))) ∧ ∀ i m H, W i m H →
      ((Ite K a).stop i H ∧ Qd H) ∨ ((Ite K a).go i H ∧ ∃ Nx : Hp → Prop, (∀ H', Nx H' → ∃ m', m' < m ∧ W (i + 1) m' H') ∧ ∀ x H', (Ite K a).yld i H x H' → g x (wipe σ vs) H' fun σ2 H2 => wipe σ2 vs = wipe σ vs ∧ tt σ2 H2 fun b H3 =>
        if b = true then te σ2 H3 fun y H4 => ∃ acc, H4 D = some (.lst acc) ∧ acc.length < sizeLine ∧ Nx (upd H4 D (.lst (acc ++ [y]))) else Nx H3) := by
  refine ⟨fun i m H => m = xs.length - i ∧ i ≤ xs.length ∧ ∃ acc, H D = some (.lst acc) ∧ P i acc H, ⟨xs.length, rfl, Nat.zero_le _, [], upd_same, h0 _ (Same.upd0 hD) upd_same⟩, ?_⟩
  rintro i m H ⟨rfl, hi, acc, e, p⟩
  have q := hl i acc H p
  by_cases hlt : i < xs.length
  · refine .inr ⟨⟨xs, xs[i], q, by simp [hlt]⟩, fun H => ∃ acc, H D = some (.lst acc) ∧ P (i + 1) acc H, fun H' p' => ⟨xs.length - (i + 1), by omega, rfl, hlt, p'⟩, fun v H' y => ?_⟩
    obtain ⟨T, x, rfl, nT, rfl, hx⟩ := y
    exact hs i x acc H T _ _ _ (hx xs q) p e nT (Same.upd0 nT) upd_same ⟨fun y H4 e4 z k => ⟨acc, e4, z, acc ++ [y], upd_same, k _ But.refl.upd upd_same⟩, fun H3 e3 k => ⟨acc, e3, k⟩⟩
  · have ei : i = xs.length := by omega
    subst ei
    exact .inl ⟨⟨xs, q, Nat.le_refl _⟩, hd acc H p e⟩
/-- over zip of two lists of one length -/
theorem lcZ (hlen : xs.length = zs.length) (P : Nat → List V → Hp → Prop) (h0 : ∀ H', Same H1 H' → H' D = some (.lst []) → P 0 [] H') (hD : H1 D = none) (hl : ∀ i acc H, P i acc H → SqL K H a xs ∧ SqL K H b zs)
    (hs : ∀ i x z acc H T H' Kt Kf, xs[i]? = some x → zs[i]? = some z → P i acc H → H D = some (.lst acc) → H T = none → Same H H' → H' T = some (.tup [x, z]) → LcK D (P (i + 1)) acc Kt Kf → LcT g tt te vs σ (.ref T) H' Kt Kf)
    (hd : ∀ acc H, P xs.length acc H → H D = some (.lst acc) → Qd H) :
    ∃ W : Nat → Nat → Hp → Prop, (∃ m, W 0 m (upd H1 D (.lst []))) ∧ ∀ i m H, W i m H →
      ((Itz K a b).stop i H ∧ Qd H) ∨ ((Itz K a b).go i H ∧ ∃ Nx : Hp → Prop, (∀ H', Nx H' → ∃ m', m' < m ∧ W (i + 1) m' H') ∧ ∀ x H', (Itz K a b).yld i H x H' → g x (wipe σ vs) H' fun σ2 H2 => wipe σ2 vs = wipe σ vs ∧ tt σ2 H2 fun b H3 =>
        if b = true then te σ2 H3 fun y H4 => ∃ acc, H4 D = some (.lst acc) ∧ acc.length < sizeLine ∧ Nx (upd H4 D (.lst (acc ++ [y]))) else Nx H3) := by
  refine ⟨fun i m H => m = xs.length - i ∧ i ≤ xs.length ∧ ∃ acc, H D = some (.lst acc) ∧ P i acc H, ⟨xs.length, rfl, Nat.zero_le _, [], upd_same, h0 _ (Same.upd0 hD) upd_same⟩, ?_⟩
  rintro i m H ⟨rfl, hi, acc, e, p⟩
  obtain ⟨q1, q2⟩ := hl i acc H p
  by_cases hlt : i < xs.length
  · have hlt2 : i < zs.length := by omega
    refine .inr ⟨⟨xs, zs, xs[i], zs[i], q1, q2, by simp [hlt], by simp [hlt2]⟩, fun H => ∃ acc, H D = some (.lst acc) ∧ P (i + 1) acc H, fun H' p' => ⟨xs.length - (i + 1), by omega, rfl, hlt, p'⟩, fun v H' y => ?_⟩
    obtain ⟨T, x, z, rfl, nT, rfl, hx, hz⟩ := y
    exact hs i x z acc H T _ _ _ (hx xs q1) (hz zs q2) p e nT (Same.upd0 nT) upd_same ⟨fun y H4 e4 z k => ⟨acc, e4, z, acc ++ [y], upd_same, k _ But.refl.upd upd_same⟩, fun H3 e3 k => ⟨acc, e3, k⟩⟩
  · have ei : i = xs.length := by omega
    subst ei
    exact .inl ⟨⟨xs, zs, q1, q2, .inl (Nat.le_refl _)⟩, hd acc H p e⟩
/-- items that hang on the item alone (what stands, stands): the list of those that are told -/
def lcYs (n : Nat) (ys : Nat → Option V) : List V := (List.range n).filterMap ys
theorem lcYs_succ (n : Nat) (ys : Nat → Option V) : lcYs (n + 1) ys = lcYs n ys ++ (ys n).toList := by
  unfold lcYs
  rw [List.range_succ, List.filterMap_append]
  cases h : ys n with
  | none => simp [h]
  | some y => simp [h]
theorem lcYs_len (n : Nat) (ys : Nat → Option V) : (lcYs n ys).length ≤ n := by
  unfold lcYs
  have := List.length_filterMap_le ys (List.range n)
  rw [List.length_range] at this
  exact this
theorem lcYs_const (n : Nat) (v : V) : lcYs n (fun _ => some v) = List.replicate n v := by
  induction n with
  | zero => rfl
  | succ n ih => rw [lcYs_succ, ih, List.replicate_succ']; rfl
/-- .. one for each item -/
theorem lcYs_map {α : Type} (f : α → V) : ∀ (xs : List α) (ys : Nat → Option V), (∀ i x, xs[i]? = some x → ys i = some (f x)) → lcYs xs.length ys = xs.map f := by
  intro xs ys h
  have key : ∀ n, n ≤ xs.length → lcYs n ys = (xs.take n).map f := by
    intro n
    induction n with
    | zero => intro _; rfl
    | succ n ih =>
      intro hn
      have hx : xs[n]? = some xs[n] := List.getElem?_eq_getElem (by omega)
      rw [lcYs_succ, ih (by omega), h n _ hx, List.take_add_one, hx, List.map_append]
      rfl
  rw [key _ (Nat.le_refl _), List.take_length]
/-- .. of those that a test keeps -/
theorem lcYs_filter {α : Type} (q : α → Bool) (f : α → V) : ∀ (xs : List α) (ys : Nat → Option V), (∀ i x, xs[i]? = some x → ys i = if q x = true then some (f x) else none) → lcYs xs.length ys = (xs.filter q).map f := by
  intro xs ys h
  have key : ∀ n, n ≤ xs.length → lcYs n ys = ((xs.take n).filter q).map f := by
    intro n
    induction n with
    | zero => intro _; rfl
    | succ n ih =>
      intro hn
      have hx : xs[n]? = some xs[n] := List.getElem?_eq_getElem (by omega)
      rw [lcYs_succ, ih (by omega), h n _ hx, List.take_add_one, hx, List.filter_append, List.map_append]
      congr 1
      cases hq : q xs[n] <;> simp [hq]
  rw [key _ (Nat.le_refl _), List.take_length]
/-- the ends of a turn that changes nothing -/
structure LcQ (H : Hp) (r : Option V) (Kt : V → Hp → Prop) (Kf : Hp → Prop) : Prop where
  yes : ∀ y H4, Same H H4 → r = some y → Kt y H4
  no : ∀ H3, Same H H3 → r = none → Kf H3
theorem lcQ_of {P : Nat → List V → Hp → Prop} {ys : Nat → Option V} {i : Nat} {acc : List V} {H H0 : Hp} {Kt : V → Hp → Prop} {Kf : Hp → Prop} (hP : P = fun i acc H => acc = lcYs i ys ∧ Same H1 H) (hD : H1 D = none) (hi : i < 100000)
    (p : P i acc H0) (e : H0 D = some (.lst acc)) (s : Same H0 H) (k : LcK D (P (i + 1)) acc Kt Kf) : LcQ H (ys i) Kt Kf := by
  subst hP
  obtain ⟨rfl, sm⟩ := p
  have hz : (lcYs i ys).length < sizeLine := Nat.lt_of_le_of_lt (lcYs_len i ys) (Nat.lt_of_lt_of_le hi (by decide))
  refine ⟨fun y H4 s4 ey => k.yes y H4 (s4 _ _ (s _ _ e)) hz fun H5 b5 _ => ⟨?_, ?_⟩, fun H3 s3 en => k.no H3 (s3 _ _ (s _ _ e)) ⟨?_, (sm.trans s).trans s3⟩⟩
  · rw [lcYs_succ, ey]; rfl
  · exact Same.mut' ((sm.trans s).trans s4) b5 hD
  · rw [lcYs_succ, en]; simp
theorem lcLq (ys : Nat → Option V) (hD : H1 D = none) (hx : SqL K H1 a xs) (hn : xs.length ≤ 100000)
    (hs : ∀ i x H Kt Kf, xs[i]? = some x → Same H1 H → LcQ H (ys i) Kt Kf → LcT g tt te vs σ x H Kt Kf)
    (hd : ∀ H, Same H1 H → H D = some (.lst (lcYs xs.length ys)) → Qd H) :
    ∃ W : Nat → Nat → Hp → Prop, (∃ m, W 0 m (upd H1 D (.lst []))) ∧ ∀ i m H, W i m H →
      ((Itl K a).stop i H ∧ Qd H) ∨ ((Itl K a).go i H ∧ ∃ Nx : Hp → Prop, (∀ H', Nx H' → ∃ m', m' < m ∧ W (i + 1) m' H') ∧ ∀ x H', (Itl K a).yld i H x H' → g x (wipe σ vs) H' fun σ2 H2 => wipe σ2 vs = wipe σ vs ∧ tt σ2 H2 fun b H3 =>
        if b = true then te σ2 H3 fun y H4 => ∃ acc, H4 D = some (.lst acc) ∧ acc.length < sizeLine ∧ Nx (upd H4 D (.lst (acc ++ [y]))) else Nx H3) :=
  lcL (fun i acc H => acc = lcYs i ys ∧ Same H1 H) (fun H' s _ => ⟨rfl, s⟩) hD (fun i acc H p => p.2.seq hx)
    (fun i x acc H Kt Kf hxi p e k => hs i x H Kt Kf hxi p.2 (lcQ_of rfl hD (by have := (List.getElem?_eq_some_iff.mp hxi).1; omega) p e (Same.refl H) k))
    (fun acc H p e => hd H p.2 (by rw [← p.1]; exact e))
theorem lcTq (ys : Nat → Option V) (hD : H1 D = none) (hx : SqT K H1 a xs) (hn : xs.length ≤ 100000)
    (hs : ∀ i x H Kt Kf, xs[i]? = some x → Same H1 H → LcQ H (ys i) Kt Kf → LcT g tt te vs σ x H Kt Kf)
    (hd : ∀ H, Same H1 H → H D = some (.lst (lcYs xs.length ys)) → Qd H) :
    ∃ W : Nat → Nat → Hp → Prop, (∃ m, W 0 m (upd H1 D (.lst []))) ∧ ∀ i m H, W i m H →
      ((Itt K a).stop i H ∧ Qd H) ∨ ((Itt K a).go i H ∧ ∃ Nx : Hp → Prop, (∀ H', Nx H' → ∃ m', m' < m ∧ W (i + 1) m' H') ∧ ∀ x H', (Itt K a).yld i H x H' → g x (wipe σ vs) H' fun σ2 H2 => wipe σ2 vs = wipe σ vs ∧ tt σ2 H2 fun b H3 =>
        if b = true then te σ2 H3 fun y H4 => ∃ acc, H4 D = some (.lst acc) ∧ acc.length < sizeLine ∧ Nx (upd H4 D (.lst (acc ++ [y]))) else Nx H3) :=
  lcT (fun i acc H => acc = lcYs i ys ∧ Same H1 H) (fun H' s _ => ⟨rfl, s⟩) hD (fun i acc H p => (show SqT K H a xs from by
      rcases hx with (h | ⟨o, h⟩) | h
      · exact .inl (.inl (p.2 _ _ h))
      · exact .inl (.inr ⟨o, p.2 _ _ h⟩)
      · exact .inr h))
    (fun i x acc H Kt Kf hxi p e k => hs i x H Kt Kf hxi p.2 (lcQ_of rfl hD (by have := (List.getElem?_eq_some_iff.mp hxi).1; omega) p e (Same.refl H) k))
    (fun acc H p e => hd H p.2 (by rw [← p.1]; exact e))
theorem lcRq {lo : Int} {n : Nat} (ys : Nat → Option V) (hD : H1 D = none) (hn : n ≤ 100000)
    (hs : ∀ i H Kt Kf, i < n → Same H1 H → LcQ H (ys i) Kt Kf → LcT g tt te vs σ (.int (lo + i)) H Kt Kf)
    (hd : ∀ H, Same H1 H → H D = some (.lst (lcYs n ys)) → Qd H) :
    ∃ W : Nat → Nat → Hp → Prop, (∃ m, W 0 m (upd H1 D (.lst []))) ∧ ∀ i m H, W i m H →
      ((Itr lo n).stop i H ∧ Qd H) ∨ ((Itr lo n).go i H ∧ ∃ Nx : Hp → Prop, (∀ H', Nx H' → ∃ m', m' < m ∧ W (i + 1) m' H') ∧ ∀ x H', (Itr lo n).yld i H x H' → g x (wipe σ vs) H' fun σ2 H2 => wipe σ2 vs = wipe σ vs ∧ tt σ2 H2 fun b H3 =>
        if b = true then te σ2 H3 fun y H4 => ∃ acc, H4 D = some (.lst acc) ∧ acc.length < sizeLine ∧ Nx (upd H4 D (.lst (acc ++ [y]))) else Nx H3) :=
  lcR (fun i acc H => acc = lcYs i ys ∧ Same H1 H) (fun H' s _ => ⟨rfl, s⟩) hD
    (fun i acc H Kt Kf hxi p e k => hs i H Kt Kf hxi p.2 (lcQ_of rfl hD (by omega) p e (Same.refl H) k))
    (fun acc H p e => hd H p.2 (by rw [← p.1]; exact e))
theorem lcEq (ys : Nat → Option V) (hD : H1 D = none) (hx : SqL K H1 a xs) (hn : xs.length ≤ 100000)
    (hs : ∀ i x T H Kt Kf, xs[i]? = some x → Same H1 H → H T = some (.tup [.int (i : Nat), x]) → LcQ H (ys i) Kt Kf → LcT g tt te vs σ (.ref T) H Kt Kf)
    (hd : ∀ H, Same H1 H → H D = some (.lst (lcYs xs.length ys)) → Qd H) :
    ∃ W : Nat → Nat → Hp → Prop, (∃ m, W 0 m (upd H1 D (.lst []))) ∧ ∀ i m H, W i m H →
      ((Ite K a).stop i H ∧ Qd H) ∨ ((Ite K a).go i H ∧ ∃ Nx : Hp → Prop, (∀ H', Nx H' → ∃ m', m' < m ∧ W (i + 1) m' H') ∧ ∀ x H', (Ite K a).yld i H x H' → g x (wipe σ vs) H' fun σ2 H2 => wipe σ2 vs = wipe σ vs ∧ tt σ2 H2 fun b H3 =>
        if b = true then te σ2 H3 fun y H4 => ∃ acc, H4 D = some (.lst acc) ∧ acc.length < sizeLine ∧ Nx (upd H4 D (.lst (acc ++ [y]))) else Nx H3) :=
  lcE (fun i acc H => acc = lcYs i ys ∧ Same H1 H) (fun H' s _ => ⟨rfl, s⟩) hD (fun i acc H p => p.2.seq hx)
    (fun i x acc H T H' Kt Kf hxi p e nT sT gT k => hs i x T H' Kt Kf hxi (p.2.trans sT) gT (lcQ_of rfl hD (by have := (List.getElem?_eq_some_iff.mp hxi).1; omega) p e sT k))
    (fun acc H p e => hd H p.2 (by rw [← p.1]; exact e))
theorem lcZq (ys : Nat → Option V) (hlen : xs.length = zs.length) (hD : H1 D = none) (hx : SqL K H1 a xs) (hz : SqL K H1 b zs) (hn : xs.length ≤ 100000)
    (hs : ∀ i x z T H Kt Kf, xs[i]? = some x → zs[i]? = some z → Same H1 H → H T = some (.tup [x, z]) → LcQ H (ys i) Kt Kf → LcT g tt te vs σ (.ref T) H Kt Kf)
    (hd : ∀ H, Same H1 H → H D = some (.lst (lcYs xs.length ys)) → Qd H) :
    ∃ W : Nat → Nat → Hp → Prop, (∃ m, W 0 m (upd H1 D (.lst []))) ∧ ∀ i m H, W i m H →
      ((Itz K a b).stop i H ∧ Qd H) ∨ ((Itz K a b).go i H ∧ ∃ Nx : Hp → Prop, (∀ H', Nx H' → ∃ m', m' < m ∧ W (i + 1) m' H') ∧ ∀ x H', (Itz K a b).yld i H x H' → g x (wipe σ vs) H' fun σ2 H2 => wipe σ2 vs = wipe σ vs ∧ tt σ2 H2 fun b H3 =>
        if b = true then te σ2 H3 fun y H4 => ∃ acc, H4 D = some (.lst acc) ∧ acc.length < sizeLine ∧ Nx (upd H4 D (.lst (acc ++ [y]))) else Nx H3) :=
  lcZ hlen (fun i acc H => acc = lcYs i ys ∧ Same H1 H) (fun H' s _ => ⟨rfl, s⟩) hD (fun i acc H p => ⟨p.2.seq hx, p.2.seq hz⟩)
    (fun i x z acc H T H' Kt Kf hxi hzi p e nT sT gT k => hs i x z T H' Kt Kf hxi hzi (p.2.trans sT) gT (lcQ_of rfl hD (by have := (List.getElem?_eq_some_iff.mp hxi).1; omega) p e sT k))
    (fun acc H p e => hd H p.2 (by rw [← p.1]; exact e))
end
/-- the items of a dict: it is held from there on (nobody else has it) -/
def iItemsN (td : TE) : TI := fun σ H R => td σ H fun x H1 => ∃ d kvs, x = .ref d ∧ H1 d = some (.dK kvs) ∧ ∀ o H2, But d H1 H2 → H2 d = some (.frz o (.dK kvs)) → R (Iti d o kvs) H2
theorem pi_itemsN {X : Cx} {e : Expr} {td : TE} {apos cpos : Pos} {elts : List Expr} {kk : Nat} {tpos : Pos} (he : PE X e td) (hbase : attributeBase e "items" X.env (eval e X.env) = eval e X.env := by rfl) (hline : (apos.endLine == cpos.line) = true := by rfl) :
    PI X (.Tuple elts kk tpos) (.Call (.Attribute e "items" apos) [] [] cpos) (iItemsN td) := by
  refine ⟨fun pins s σ H R I h => ?_⟩
  refine wpAny_Call_method (T := "dict") (id := "dict.items") hbase rfl hline F.plainAttrs_dict F.slot_dict_items F.type_dict_items (thn (he.run pins s σ H _ I h) fun u s1 ⟨x, H0, I0, rx, d, kvs, ex, hd0, q0⟩ => ?_)
  subst ex
  obtain rfl : u = Value.ref d := rx
  obtain ⟨o, I1⟩ := I0.lock hd0 trivial
  have hd : (upd H0 d (.frz o (.dK kvs))) d = some (.frz o (.dK kvs)) := upd_same
  have q := q0 o _ But.refl.upd hd
  generalize upd H0 d (.frz o (.dK kvs)) = H1 at I1 hd q
  obtain ⟨hs, hgd, hx, es, ep, vs, hdt, hsz, kv, hm⟩ := I1.frzK hd
  have hl : kvs.length = vs.length := Paired.length kv
  refine ⟨hm.dictOf.typeIs, hm.dictOf.mapOf.noDict, ?_⟩
  have I2 : Inv X pins σ H1 { s1 with heap := s1.heap.push { cls := .type "dict_items", data := .fields #[.ref d] } } := I1.kept (t' := s1.toks) fun b ob q => Heap.get?_push_of_some _ q
  have fin : wpAny (model X.prog X.w) X.A (pyIter (.ref s1.heap.objs.size)) (PIE X pins σ (.Tuple elts kk tpos) R) X.xe { s1 with heap := s1.heap.push { cls := .type "dict_items", data := .fields #[.ref d] } } := by
    refine wpAny_pyIter_items (d := d) (knd := mixKind X.prog X.w) ⟨_, Heap.get?_push_size _ rfl, rfl, rfl⟩ (hm.push _) (pi_one (tk := s1.toks) I2 _ (turn_items _ hdt) ⟨.none, .none, ?_⟩ q)
    rw [hl]
    exact Heap.get?_push_size _ rfl
  show wpAny _ _ (callWith cpos (.builtin "dict.items") [.ref d] [] []) _ X.xe s1
  exact method_meetsIn F.slot_dict_items F.entry_dict_items rfl (PySem.evalArgs_none ⟨rfl, hm.dictOf.typeIs, F.args_dict_items_1 _, _, meets_dict_items (mixKind X.prog X.w) d hs, ⟨vs, hm.dictOf⟩, fin⟩)
/-! ### loops over enumerate, zip, the items of a dict that nobody else holds -/
section
variable {K : PySem.W.Frag} {a b : Addr} {xs zs : List V} {g : TG} {tb : TS} {D : Ends} {σ : L2.St} {H : Hp}
theorem for_enum (Pv : Nat → L2.St → Hp → Prop) (h0 : Pv 0 σ H) (hl : ∀ i σ H, Pv i σ H → SqL K H a xs)
    (hs : ∀ i x T σ H H', xs[i]? = some x → Pv i σ H → H T = none → Same H H' → H' T = some (.tup [.int (i : Nat), x]) → g (.ref T) σ H' fun σ2 H2 => tb { D with nx := Pv (i + 1), ct := Pv (i + 1), bk := D.nx } σ2 H2) (hd : ∀ σ H, Pv xs.length σ H → D.nx σ H) :
    ∃ W : Nat → Nat → L2.St → Hp → Prop, (∃ m, W 0 m σ H) ∧ ∀ i m σ H, W i m σ H →
      ((Ite K a).stop i H ∧ D.nx σ H) ∨ ((Ite K a).go i H ∧ ∃ N : L2.St → Hp → Prop, (∀ σ' H', N σ' H' → ∃ m', m' < m ∧ W (i + 1) m' σ' H') ∧ ∀ v H', (Ite K a).yld i H v H' → g v σ H' fun σ2 H2 => tb { D with nx := N, ct := N, bk := D.nx } σ2 H2) := by
  refine ⟨fun i m σ H => m = xs.length - i ∧ i ≤ xs.length ∧ Pv i σ H, ⟨xs.length, rfl, Nat.zero_le _, h0⟩, ?_⟩
  rintro i m σ H ⟨rfl, hi, p⟩
  have q := hl i σ H p
  by_cases hlt : i < xs.length
  · refine .inr ⟨⟨xs, xs[i], q, by simp [hlt]⟩, Pv (i + 1), fun σ' H' p' => ⟨xs.length - (i + 1), by omega, rfl, hlt, p'⟩, fun v H' y => ?_⟩
    obtain ⟨T, x, rfl, nT, rfl, hx⟩ := y
    exact hs i x T σ H _ (hx xs q) p nT (Same.upd0 nT) upd_same
  · have ei : i = xs.length := by omega
    subst ei
    exact .inl ⟨⟨xs, q, Nat.le_refl _⟩, hd σ H p⟩
theorem for_zip (hlen : xs.length = zs.length) (Pv : Nat → L2.St → Hp → Prop) (h0 : Pv 0 σ H) (hl : ∀ i σ H, Pv i σ H → SqL K H a xs ∧ SqL K H b zs)
    (hs : ∀ i x z T σ H H', xs[i]? = some x → zs[i]? = some z → Pv i σ H → H T = none → Same H H' → H' T = some (.tup [x, z]) → g (.ref T) σ H' fun σ2 H2 => tb { D with nx := Pv (i + 1), ct := Pv (i + 1), bk := D.nx } σ2 H2) (hd : ∀ σ H, Pv xs.length σ H → D.nx σ H) :
    ∃ W : Nat → Nat → L2.St → Hp → Prop, (∃ m, W 0 m σ H) ∧ ∀ i m σ H, W i m σ H →
      ((Itz K a b).stop i H ∧ D.nx σ H) ∨ ((Itz K a b).go i H ∧ ∃ N : L2.St → Hp → Prop, (∀ σ' H', N σ' H' → ∃ m', m' < m ∧ W (i + 1) m' σ' H') ∧ ∀ v H', (Itz K a b).yld i H v H' → g v σ H' fun σ2 H2 => tb { D with nx := N, ct := N, bk := D.nx } σ2 H2) := by
  refine ⟨fun i m σ H => m = xs.length - i ∧ i ≤ xs.length ∧ Pv i σ H, ⟨xs.length, rfl, Nat.zero_le _, h0⟩, ?_⟩
  rintro i m σ H ⟨rfl, hi, p⟩
  obtain ⟨q1, q2⟩ := hl i σ H p
  by_cases hlt : i < xs.length
  · have hlt2 : i < zs.length := by omega
    refine .inr ⟨⟨xs, zs, xs[i], zs[i], q1, q2, by simp [hlt], by simp [hlt2]⟩, Pv (i + 1), fun σ' H' p' => ⟨xs.length - (i + 1), by omega, rfl, hlt, p'⟩, fun v H' y => ?_⟩
    obtain ⟨T, x, z, rfl, nT, rfl, hx, hz⟩ := y
    exact hs i x z T σ H _ (hx xs q1) (hz zs q2) p nT (Same.upd0 nT) upd_same
  · have ei : i = xs.length := by omega
    subst ei
    exact .inl ⟨⟨xs, zs, q1, q2, .inl (Nat.le_refl _)⟩, hd σ H p⟩
theorem for_items {d : Addr} {o : Obj} {kvs : List (Key × V)} (Pv : Nat → L2.St → Hp → Prop) (h0 : Pv 0 σ H) (hl : ∀ i σ H, Pv i σ H → H d = some (.frz o (.dK kvs)))
    (hs : ∀ i k v T σ H H', kvs[i]? = some (k, v) → Pv i σ H → H T = none → Same H H' → H' T = some (.tup [kV k, v]) → g (.ref T) σ H' fun σ2 H2 => tb { D with nx := Pv (i + 1), ct := Pv (i + 1), bk := D.nx } σ2 H2) (hd : ∀ σ H, Pv kvs.length σ H → D.nx σ H) :
    ∃ W : Nat → Nat → L2.St → Hp → Prop, (∃ m, W 0 m σ H) ∧ ∀ i m σ H, W i m σ H →
      ((Iti d o kvs).stop i H ∧ D.nx σ H) ∨ ((Iti d o kvs).go i H ∧ ∃ N : L2.St → Hp → Prop, (∀ σ' H', N σ' H' → ∃ m', m' < m ∧ W (i + 1) m' σ' H') ∧ ∀ v H', (Iti d o kvs).yld i H v H' → g v σ H' fun σ2 H2 => tb { D with nx := N, ct := N, bk := D.nx } σ2 H2) := by
  refine ⟨fun i m σ H => m = kvs.length - i ∧ i ≤ kvs.length ∧ Pv i σ H, ⟨kvs.length, rfl, Nat.zero_le _, h0⟩, ?_⟩
  rintro i m σ H ⟨rfl, hi, p⟩
  have q := hl i σ H p
  by_cases hlt : i < kvs.length
  · refine .inr ⟨⟨q, hlt⟩, Pv (i + 1), fun σ' H' p' => ⟨kvs.length - (i + 1), by omega, rfl, hlt, p'⟩, fun v H' y => ?_⟩
    obtain ⟨T, k, v, hx, rfl, nT, rfl⟩ := y
    exact hs i k v T σ H _ hx p nT (Same.upd0 nT) upd_same
  · have ei : i = kvs.length := by omega
    subst ei
    exact .inl ⟨⟨q, Nat.le_refl _⟩, hd σ H p⟩
end
/-! ### data, == -/
section
variable {K : PySem.W.Frag} {H H' : Hp}
theorem Same.seqT {a : Addr} {xs : List V} (e : Same H H') (h : SqT K H a xs) : SqT K H' a xs := by
  rcases h with (h | ⟨o, h⟩) | h
  · exact .inl (.inl (e _ _ h))
  · exact .inl (.inr ⟨o, e _ _ h⟩)
  · exact .inr h
mutual
theorem dp_mono (s : Same H H') : ∀ {v : V} {d : PyData}, Dp K H v d → Dp K H' v d
  | _, _, .non => .non
  | _, _, .bl b => .bl b
  | _, _, .int i => .int i
  | _, _, .str x => .str x
  | _, _, .lst h a => .lst (s.seq h) (dpAll_mono s a)
  | _, _, .tup h a => .tup (Same.seqT s h) (dpAll_mono s a)
theorem dpAll_mono (s : Same H H') : ∀ {vs : List V} {ds : List PyData}, DpAll K H vs ds → DpAll K H' vs ds
  | _, _, .nil => .nil
  | _, _, .cons h t => .cons (dp_mono s h) (dpAll_mono s t)
end
theorem dpAll_map {α : Type} {f : α → V} {g : α → PyData} (h : ∀ x, Dp K H (f x) (g x)) : ∀ xs : List α, DpAll K H (xs.map f) (xs.map g)
  | [] => .nil
  | x :: xs => .cons (h x) (dpAll_map h xs)
theorem dp_ints {a : Addr} {ns : List Int} (h : SqL K H a (ns.map V.int)) : Dp K H (.ref a) (.list (ns.map .int)) := .lst h (dpAll_map (fun i => .int i) ns)
def optD : Option Int → PyData
  | some i => .int i
  | none => .none
theorem dp_opt : ∀ x, Dp K H (optI x) (optD x)
  | some i => .int i
  | none => .non
theorem dp_opts {a : Addr} {ns : List (Option Int)} (h : SqL K H a (ns.map optI)) : Dp K H (.ref a) (.list (ns.map optD)) := .lst h (dpAll_map dp_opt ns)
end
mutual
/-- data without truths and dicts -/
def nob : PyData → Bool
  | .none | .int _ | .str _ => true
  | .bool _ | .dict _ => false
  | .list xs | .tuple xs => nobAll xs
def nobAll : List PyData → Bool
  | [] => true
  | x :: xs => nob x && nobAll xs
end
mutual
theorem eqv_iff : ∀ {d e : PyData}, nob d = true → nob e = true → (PyData.eqv d e = true ↔ d = e)
  | .none, .none, _, _ => by simp [PyData.eqv]
  | .none, .int _, _, _ => by simp [PyData.eqv]
  | .none, .str _, _, _ => by simp [PyData.eqv]
  | .none, .list _, _, _ => by simp [PyData.eqv]
  | .none, .tuple _, _, _ => by simp [PyData.eqv]
  | .int _, .none, _, _ => by simp [PyData.eqv]
  | .int _, .int _, _, _ => by simp [PyData.eqv]
  | .int _, .str _, _, _ => by simp [PyData.eqv]
  | .int _, .list _, _, _ => by simp [PyData.eqv]
  | .int _, .tuple _, _, _ => by simp [PyData.eqv]
  | .str _, .none, _, _ => by simp [PyData.eqv]
  | .str _, .int _, _, _ => by simp [PyData.eqv]
  | .str _, .str _, _, _ => by simp [PyData.eqv]
  | .str _, .list _, _, _ => by simp [PyData.eqv]
  | .str _, .tuple _, _, _ => by simp [PyData.eqv]
  | .list _, .none, _, _ => by simp [PyData.eqv]
  | .list _, .int _, _, _ => by simp [PyData.eqv]
  | .list _, .str _, _, _ => by simp [PyData.eqv]
  | .list xs, .list ys, h1, h2 => by
    have h := eqvAll_iff (xs := xs) (ys := ys) (by simpa [nob] using h1) (by simpa [nob] using h2)
    simp only [PyData.eqv, PyData.list.injEq]; exact h
  | .list _, .tuple _, _, _ => by simp [PyData.eqv]
  | .tuple _, .none, _, _ => by simp [PyData.eqv]
  | .tuple _, .int _, _, _ => by simp [PyData.eqv]
  | .tuple _, .str _, _, _ => by simp [PyData.eqv]
  | .tuple _, .list _, _, _ => by simp [PyData.eqv]
  | .tuple xs, .tuple ys, h1, h2 => by
    have h := eqvAll_iff (xs := xs) (ys := ys) (by simpa [nob] using h1) (by simpa [nob] using h2)
    simp only [PyData.eqv, PyData.tuple.injEq]; exact h
  | .bool _, _, h, _ => by simp [nob] at h
  | .dict _, _, h, _ => by simp [nob] at h
  | .none, .bool _, _, h => by simp [nob] at h
  | .none, .dict _, _, h => by simp [nob] at h
  | .int _, .bool _, _, h => by simp [nob] at h
  | .int _, .dict _, _, h => by simp [nob] at h
  | .str _, .bool _, _, h => by simp [nob] at h
  | .str _, .dict _, _, h => by simp [nob] at h
  | .list _, .bool _, _, h => by simp [nob] at h
  | .list _, .dict _, _, h => by simp [nob] at h
  | .tuple _, .bool _, _, h => by simp [nob] at h
  | .tuple _, .dict _, _, h => by simp [nob] at h
theorem eqvAll_iff : ∀ {xs ys : List PyData}, nobAll xs = true → nobAll ys = true → (PyData.eqvAll xs ys = true ↔ xs = ys)
  | [], [], _, _ => by simp [PyData.eqvAll]
  | [], _ :: _, _, _ => by simp [PyData.eqvAll]
  | _ :: _, [], _, _ => by simp [PyData.eqvAll]
  | x :: xs, y :: ys, h1, h2 => by
    simp only [nobAll, Bool.and_eq_true] at h1 h2
    have a := eqv_iff h1.1 h2.1
    have b := eqvAll_iff h1.2 h2.2
    simp only [PyData.eqvAll, Bool.and_eq_true, List.cons.injEq]
    rw [a, b]
end
theorem eqv_dec {d e : PyData} (h1 : nob d = true) (h2 : nob e = true) {b : Bool} (h : b = true ↔ d = e) : PyData.eqv d e = b := by
  have a := eqv_iff h1 h2
  cases hb : b with
  | true => rw [hb] at h; exact a.mpr (h.mp rfl)
  | false =>
    cases he : PyData.eqv d e with
    | false => rfl
    | true => have := h.mpr (a.mp he); rw [hb] at this; cases this
theorem nobAll_map {α : Type} {g : α → PyData} (h : ∀ x, nob (g x) = true) : ∀ xs : List α, nobAll (xs.map g) = true
  | [] => by simp [nobAll]
  | x :: xs => by simp only [List.map_cons, nobAll, h x, nobAll_map h xs, Bool.and_self]
theorem canLayAll0_map {α : Type} {g : α → PyData} (h : ∀ x, (g x).canLay0 = true) : ∀ xs : List α, PyData.canLayAll0 (xs.map g) = true
  | [] => by simp [PyData.canLayAll0]
  | x :: xs => by simp only [List.map_cons, PyData.canLayAll0, h x, canLayAll0_map h xs, Bool.and_self]
theorem depthAll_map {α : Type} {g : α → PyData} {m : Nat} (h : ∀ x, (g x).depth ≤ m) : ∀ xs : List α, PyData.depthAll (xs.map g) ≤ m
  | [] => by simp [PyData.depthAll]
  | x :: xs => by
    have h1 := h x
    have h2 := depthAll_map h xs
    simp only [List.map_cons, PyData.depthAll]; omega
theorem shaped_map {α : Type} {g : α → PyData} {m : Nat} (hm : m < 64) (h1 : ∀ x, (g x).canLay0 = true) (h2 : ∀ x, (g x).depth ≤ m) (xs : List α) : SeqAt.shaped (.list (xs.map g)) = true := by
  unfold SeqAt.shaped
  rw [Bool.and_eq_true]
  refine ⟨by simp only [PyData.canLay0]; exact canLayAll0_map h1 xs, decide_eq_true ?_⟩
  have := depthAll_map h2 xs
  simp only [PyData.depth]; omega
theorem shaped_ints (ns : List Int) : SeqAt.shaped (.list (ns.map .int)) = true := shaped_map (m := 0) (by decide) (fun _ => by simp [PyData.canLay0]) (fun _ => by simp [PyData.depth]) ns
theorem shaped_opts (ns : List (Option Int)) : SeqAt.shaped (.list (ns.map optD)) = true := shaped_map (m := 0) (by decide) (fun x => by cases x <;> simp [optD, PyData.canLay0]) (fun x => by cases x <;> simp [optD, PyData.depth]) ns
theorem nob_ints (ns : List Int) : nob (.list (ns.map .int)) = true := by simp only [nob]; exact nobAll_map (fun _ => by simp [nob]) ns
theorem nob_opts (ns : List (Option Int)) : nob (.list (ns.map optD)) = true := by simp only [nob]; exact nobAll_map (fun x => by cases x <;> simp [optD, nob]) ns
theorem map_inj {α β : Type} {f : α → β} (h : ∀ a b, f a = f b → a = b) : ∀ {xs ys : List α}, xs.map f = ys.map f → xs = ys
  | [], [], _ => rfl
  | [], _ :: _, e => by simp at e
  | _ :: _, [], e => by simp at e
  | x :: xs, y :: ys, e => by
    simp only [List.map_cons, List.cons.injEq] at e
    rw [h x y e.1, map_inj h e.2]
theorem eqv_ints (ns ms : List Int) : PyData.eqv (.list (ns.map .int)) (.list (ms.map .int)) = decide (ns = ms) :=
  eqv_dec (nob_ints ns) (nob_ints ms) (by
    rw [decide_eq_true_iff]
    exact ⟨fun e => by rw [e], fun e => map_inj (fun a b h => PyData.int.inj h) (PyData.list.inj e)⟩)
theorem eqv_opts (ns ms : List (Option Int)) : PyData.eqv (.list (ns.map optD)) (.list (ms.map optD)) = decide (ns = ms) :=
  eqv_dec (nob_opts ns) (nob_opts ms) (by
    rw [decide_eq_true_iff]
    exact ⟨fun e => by rw [e], fun e => map_inj (fun a b h => by cases a <;> cases b <;> simp_all [optD]) (PyData.list.inj e)⟩)
section
variable {X : Cx}
/-- two lists of ints -/
def rEqIs (K : PySem.W.Frag) : R2 := fun x y H Q => ∃ (a b : Addr) (ns ms : List Int), x = .ref a ∧ y = .ref b ∧ SqL K H a (ns.map V.int) ∧ SqL K H b (ms.map V.int) ∧ Q (.bl (decide (ns = ms))) H
def rNeIs (K : PySem.W.Frag) : R2 := fun x y H Q => ∃ (a b : Addr) (ns ms : List Int), x = .ref a ∧ y = .ref b ∧ SqL K H a (ns.map V.int) ∧ SqL K H b (ms.map V.int) ∧ Q (.bl (!decide (ns = ms))) H
theorem op_eqIs (hu : X.A.units + 64 < cLine) : OpR X (compareOp .Eq) (rEqIs X.K) := opR_imp (op_eqD hu) fun _ _ _ _ ⟨a, b, ns, ms, e1, e2, h1, h2, q⟩ => by
  subst e1 e2
  exact ⟨_, _, dp_ints h1, dp_ints h2, shaped_ints ns, shaped_ints ms, by rw [eqv_ints]; exact q⟩
theorem op_neIs (hu : X.A.units + 64 < cLine) : OpR X (compareOp .NotEq) (rNeIs X.K) := opR_imp (op_neD hu) fun _ _ _ _ ⟨a, b, ns, ms, e1, e2, h1, h2, q⟩ => by
  subst e1 e2
  exact ⟨_, _, dp_ints h1, dp_ints h2, shaped_ints ns, shaped_ints ms, by rw [eqv_ints]; exact q⟩
end
/-! ### rules that hang on the written part, the part by its name (a comprehension's block has the same one) -/
section
variable {X : Cx} {K : PySem.W.Frag}
theorem op_notInK (h : X.K = K) : OpR X (compareOp .NotIn) (rIn K true) := h ▸ op_notIn_seq
theorem op_inK (h : X.K = K) : OpR X (compareOp .In) (rIn K false) := h ▸ op_in_seq
theorem ix_listK (h : X.K = K) : IxR X (rIxL K) := h ▸ ix_list
theorem ix_tupK (h : X.K = K) : IxR X (rIxT K) := h ▸ ix_tup
theorem ix_seqK (h : X.K = K) : IxR X (rIx K) := h ▸ ix_seq
theorem op_catK (h : X.K = K) : OpR X (binaryOp .Add) (rCatA K) := h ▸ op_catA
theorem sl_listK (h : X.K = K) : SlR X (rSlA K) := h ▸ sl_listA
theorem op_eqDK (hu : X.A.units + 64 < cLine) (h : X.K = K) : OpR X (compareOp .Eq) (rEqD K) := h ▸ op_eqD hu
theorem op_neDK (hu : X.A.units + 64 < cLine) (h : X.K = K) : OpR X (compareOp .NotEq) (rNeD K) := h ▸ op_neD hu
theorem units65 {k : Nat} {A : Around} (r : Room k A) : A.units + 65 < cLine := by have := r.un; omega
theorem op_inDK (hu : X.A.units + 65 < cLine) (h : X.K = K) : OpR X (compareOp .In) (rInD K) := h ▸ op_inD hu
theorem op_notInDK (hu : X.A.units + 65 < cLine) (h : X.K = K) : OpR X (compareOp .NotIn) (rNotInD K) := h ▸ op_notInD hu
theorem op_eqIsK (hu : X.A.units + 64 < cLine) (h : X.K = K) : OpR X (compareOp .Eq) (rEqIs K) := h ▸ op_eqIs hu
theorem op_neIsK (hu : X.A.units + 64 < cLine) (h : X.K = K) : OpR X (compareOp .NotEq) (rNeIs K) := h ▸ op_neIs hu
theorem call_isiK (h : X.K = K) : CallR X (.builtin "isinstance") (rIsi K) := h ▸ call_isi
theorem call_isiTK (h : X.K = K) : CallR X (.builtin "isinstance") (rIsiT K) := h ▸ call_isiT
def rLen (K : PySem.W.Frag) : List V → Hp → VK → Prop := fun xs H Q => ∃ x n, xs = [x] ∧ LenV K x H n ∧ Q (.int n) H
theorem call_lenK (h : X.K = K) : CallR X (.builtin "len") (rLen K) := h ▸ call_len
theorem cr_sumK (hc : X.calm = true) (h : X.K = K) : CallR X (.builtin "sum") (rSum K) := h ▸ cr_sum hc
theorem cr_maxK (hc : X.calm = true) (h : X.K = K) : CallR X (.builtin "max") (rMax K) := h ▸ cr_max hc
theorem cr_minK (hc : X.calm = true) (h : X.K = K) : CallR X (.builtin "min") (rMin K) := h ▸ cr_min hc
theorem cr_anyK (hc : X.calm = true) (h : X.K = K) : CallR X (.builtin "any") (rAny K) := h ▸ cr_any hc
theorem cr_allK (hc : X.calm = true) (h : X.K = K) : CallR X (.builtin "all") (rAll K) := h ▸ cr_all hc
theorem call_listK (h : X.K = K) : CallR X (.type "list") (rListA K) := h ▸ call_listA
theorem call_tupLK (h : X.K = K) : CallR X (.type "tuple") (rTupLA K) := h ▸ call_tupLA
theorem pe_fldK {e : Expr} {f : Str} {pos : Pos} {ta : TE} (h : X.K = K) (he : PE X e ta) (hb : attributeBase e f X.env (eval e X.env) = eval e X.env) : PE X (.Attribute e f pos) (tFld K ta f) := h ▸ pe_fld he hb
theorem pi_listK {tg l : Expr} {tl : TE} (h : X.K = K) (hl : PE X l tl) : PI X tg l (iList K tl) := h ▸ pi_list hl
theorem pi_tupK {tg l : Expr} {tl : TE} (h : X.K = K) (hl : PE X l tl) : PI X tg l (iTup K tl) := h ▸ pi_tup hl
theorem pi_enumK {e : Expr} {ta : TA} {p pos tpos : Pos} {elts : List Expr} {kk : Nat} (h : X.K = K) (hg : Gl X "enumerate") (hm : X.mg "enumerate" = none) (ha : PA X [e] ta) (hs : starEach [e] X.env = [(false, eval e X.env)] := by rfl) :
    PI X (.Tuple elts kk tpos) (.Call (.Name "enumerate" p) [e] [] pos) (iEnum K ta) := h ▸ pi_enum hg hm ha hs
theorem pi_zipK {e e2 : Expr} {ta : TA} {p pos tpos : Pos} {elts : List Expr} {kk : Nat} (h : X.K = K) (hg : Gl X "zip") (hm : X.mg "zip" = none) (ha : PA X [e, e2] ta)
    (hs : starEach [e, e2] X.env = (false, eval e X.env) :: starEach [e2] X.env := by rfl) (hpl : (backTo pos (starEach [e2] X.env)).any (·.1) = false := by rfl) :
    PI X (.Tuple elts kk tpos) (.Call (.Name "zip" p) [e, e2] [] pos) (iZip K ta) := h ▸ pi_zip hg hm ha hs hpl
end
/-- a statement with what comes behind it by a name: M holds at its end -/
theorem seq_key {t u : TS} {D : Ends} {σ : L2.St} {H : Hp} (M : L2.St → Hp → Prop) (h2 : ∀ σ H, M σ H → u D σ H) (h1 : ∀ N : L2.St → Hp → Prop, (∀ σ H, M σ H → N σ H) → t { D with nx := N } σ H) : tSeq t u D σ H := h1 _ h2
theorem isIf {a : TT} {b c d : TS} {D : Ends} {σ : L2.St} {H : Hp} (h : tSeq (tIfS a b c) d D σ H) : tSeq (tIfS a b c) d D σ H := h
theorem iteF' {c : Bool} {A B : Prop} (hc : c = false) (h : B) : if c = true then A else B := by
  subst hc; exact iteF h
theorem iteT' {c : Bool} {A B : Prop} (hc : c = true) (h : A) : if c = true then A else B := by
  subst hc; exact iteT h
theorem Dr.seqT {K : PySem.W.Frag} {H H' : Hp} {a b : Addr} {xs : List V} (e : Dr a H H') (n : b ≠ a) (h : SqT K H b xs) : SqT K H' b xs := by
  rcases h with (h | ⟨o, h⟩) | h
  · exact .inl (.inl (e.b _ _ n h))
  · exact .inl (.inr ⟨o, e.b _ _ n h⟩)
  · exact .inr h
theorem int_inj_dec {i j : Int} : decide (V.int i = V.int j) = decide (i = j) := decide_eq_decide.mpr ⟨V.int.inj, fun e => e ▸ rfl⟩
/-- an item of a short written list -/
theorem pick2 {P : V → Prop} {a b : V} {n : Int} (h0 : 0 ≤ n) (h1 : n < 2) (ha : P a) (hb : P b) : ∃ x, atI [a, b] n = some x ∧ P x := by
  have : n = 0 ∨ n = 1 := by omega
  rcases this with rfl | rfl
  · exact ⟨a, rfl, ha⟩
  · exact ⟨b, rfl, hb⟩
theorem pick3 {P : V → Prop} {a b c : V} {n : Int} (h0 : 0 ≤ n) (h1 : n < 3) (ha : P a) (hb : P b) (hc : P c) : ∃ x, atI [a, b, c] n = some x ∧ P x := by
  have : n = 0 ∨ n = 1 ∨ n = 2 := by omega
  rcases this with rfl | rfl | rfl
  · exact ⟨a, rfl, ha⟩
  · exact ⟨b, rfl, hb⟩
  · exact ⟨c, rfl, hc⟩
theorem pick4 {P : V → Prop} {a b c d : V} {n : Int} (h0 : 0 ≤ n) (h1 : n < 4) (ha : P a) (hb : P b) (hc : P c) (hd : P d) : ∃ x, atI [a, b, c, d] n = some x ∧ P x := by
  have : n = 0 ∨ n = 1 ∨ n = 2 ∨ n = 3 := by omega
  rcases this with rfl | rfl | rfl | rfl
  · exact ⟨a, rfl, ha⟩
  · exact ⟨b, rfl, hb⟩
  · exact ⟨c, rfl, hc⟩
  · exact ⟨d, rfl, hd⟩
theorem pick5 {P : V → Prop} {a b c d e : V} {n : Int} (h0 : 0 ≤ n) (h1 : n < 5) (ha : P a) (hb : P b) (hc : P c) (hd : P d) (he : P e) : ∃ x, atI [a, b, c, d, e] n = some x ∧ P x := by
  have : n = 0 ∨ n = 1 ∨ n = 2 ∨ n = 3 ∨ n = 4 := by omega
  rcases this with rfl | rfl | rfl | rfl | rfl
  · exact ⟨a, rfl, ha⟩
  · exact ⟨b, rfl, hb⟩
  · exact ⟨c, rfl, hc⟩
  · exact ⟨d, rfl, hd⟩
  · exact ⟨e, rfl, he⟩
theorem pick6 {P : V → Prop} {a b c d e f : V} {n : Int} (h0 : 0 ≤ n) (h1 : n < 6) (ha : P a) (hb : P b) (hc : P c) (hd : P d) (he : P e) (hf : P f) : ∃ x, atI [a, b, c, d, e, f] n = some x ∧ P x := by
  have : n = 0 ∨ n = 1 ∨ n = 2 ∨ n = 3 ∨ n = 4 ∨ n = 5 := by omega
  rcases this with rfl | rfl | rfl | rfl | rfl | rfl
  · exact ⟨a, rfl, ha⟩
  · exact ⟨b, rfl, hb⟩
  · exact ⟨c, rfl, hc⟩
  · exact ⟨d, rfl, hd⟩
  · exact ⟨e, rfl, he⟩
  · exact ⟨f, rfl, hf⟩
/-- an int within bounds -/
def InR (lo hi : Int) (x : V) : Prop := ∃ z, x = .int z ∧ lo ≤ z ∧ z < hi
/-! ### isinstance of plain things -/
section
variable {X : Cx}
def rIs (T : String) (ans : V → String → Bool) : List V → Hp → VK → Prop := fun xs H Q => ∃ x t, xs = [x, .ty T] ∧ Ty7 H x t ∧ Q (.bl (ans x t)) H
theorem call_isTy (T : String) (ans : V → String → Bool) (h : ∀ H x t, Ty7 H x t → kitB t T = some (ans x t)) : CallR X (.builtin "isinstance") (rIs T ans) :=
  callR_imp call_isi fun _ H Q ⟨x, t, e, ht, q⟩ => ⟨x, _, _, _, _, e, .ty _, ht.tx, kit_ty (h H x t ht), q⟩
theorem is_list : CallR X (.builtin "isinstance") (rIs "list" fun _ t => decide (t = "list")) := call_isTy _ _ fun _ _ _ h => h.kl
theorem is_tuple : CallR X (.builtin "isinstance") (rIs "tuple" fun _ t => decide (t = "tuple")) := call_isTy _ _ fun _ _ _ h => h.kt
theorem is_str : CallR X (.builtin "isinstance") (rIs "str" fun _ t => decide (t = "str")) := call_isTy _ _ fun _ _ _ h => h.ks
theorem is_int : CallR X (.builtin "isinstance") (rIs "int" fun x _ => isI x || isB x) := call_isTy _ _ fun _ _ _ h => h.ki
theorem is_bool : CallR X (.builtin "isinstance") (rIs "bool" fun x _ => isB x) := call_isTy _ _ fun _ _ _ h => h.kb
end
/-! ### comprehensions, shorter: one item for each, those that a test keeps, items that draw -/
section
variable {K : PySem.W.Frag} {a b s : Addr} {g : TG} {tt : TT} {te : TE} {vs : List Nat} {σ : L2.St} {H1 : Hp} {D : Addr} {Qd : Hp → Prop} {α β : Type}
abbrev LcG (I : It) (g : TG) (tt : TT) (te : TE) (vs : List Nat) (σ : L2.St) (H1 : Hp) (D : Addr) (Qd : Hp → Prop) : Prop :=
    ∃ W : Nat → Nat → Hp → Prop, (∃ m, W 0 m (upd H1 D (.lst []))) ∧ ∀ i m H, W i m H →
      (I.stop i H ∧ Qd H) ∨ (I.go i H ∧ ∃ Nx : Hp → Prop, (∀ H', Nx H' → ∃ m', m' < m ∧ W (i + 1) m' H') ∧ ∀ x H', I.yld i H x H' → g x (wipe σ vs) H' fun σ2 H2 => wipe σ2 vs = wipe σ vs ∧ tt σ2 H2 fun b H3 =>
        if b = true then te σ2 H3 fun y H4 => ∃ acc, H4 D = some (.lst acc) ∧ acc.length < sizeLine ∧ Nx (upd H4 D (.lst (acc ++ [y]))) else Nx H3)
def ysF (f : α → V) (q : α → Bool) (xs : List α) (i : Nat) : Option V := xs[i]?.bind fun x => if q x = true then some (f x) else none
theorem ysF_all (f : α → V) (q : α → Bool) (xs : List α) : lcYs xs.length (ysF f q xs) = (xs.filter q).map f := lcYs_filter q f xs _ fun i x h => by unfold ysF; rw [h]; rfl
theorem ysF_one (f : α → V) (xs : List α) : lcYs xs.length (ysF f (fun _ => true) xs) = xs.map f := by
  rw [ysF_all, List.filter_eq_self.mpr fun _ _ => rfl]
theorem of_map {ρ : α → V} {ys : List α} {i : Nat} {x : V} (h : (ys.map ρ)[i]? = some x) : ∃ y, ys[i]? = some y ∧ x = ρ y := by
  rw [List.getElem?_map] at h
  cases e : ys[i]? with
  | none => rw [e] at h; cases h
  | some z => rw [e] at h; exact ⟨z, rfl, (Option.some.inj h).symm⟩
theorem lcLf (ρ f : α → V) (q : α → Bool) {ys : List α} (hD : H1 D = none) (hx : SqL K H1 a (ys.map ρ)) (hn : ys.length ≤ 100000)
    (hs : ∀ (i : Nat) (y : α) (H : Hp) (Kt : V → Hp → Prop) (Kf : Hp → Prop), ys[i]? = some y → Same H1 H → (q y = true → ∀ H4, Same H H4 → Kt (f y) H4) → (q y = false → ∀ H4, Same H H4 → Kf H4) → LcT g tt te vs σ (ρ y) H Kt Kf)
    (hd : ∀ H, Same H1 H → H D = some (.lst ((ys.filter q).map f)) → Qd H) : LcG (Itl K a) g tt te vs σ H1 D Qd :=
  lcLq (ysF f q ys) hD hx (by rw [List.length_map]; exact hn) (fun i x H Kt Kf hxi s qq => by
    obtain ⟨y, hy, rfl⟩ := of_map hxi
    exact hs i y H Kt Kf hy s (fun e H4 s4 => qq.yes _ _ s4 (by unfold ysF; rw [hy]; exact if_pos e)) (fun e H4 s4 => qq.no _ s4 (by unfold ysF; rw [hy]; exact if_neg (by rw [e]; simp))))
    (fun H s h => hd H s (by rw [h, List.length_map, ysF_all]))
theorem lcLm (ρ f : α → V) {ys : List α} (hD : H1 D = none) (hx : SqL K H1 a (ys.map ρ)) (hn : ys.length ≤ 100000)
    (hs : ∀ (i : Nat) (y : α) (H : Hp) (Kt : V → Hp → Prop) (Kf : Hp → Prop), ys[i]? = some y → Same H1 H → (∀ H4, Same H H4 → Kt (f y) H4) → LcT g tt te vs σ (ρ y) H Kt Kf)
    (hd : ∀ H, Same H1 H → H D = some (.lst (ys.map f)) → Qd H) : LcG (Itl K a) g tt te vs σ H1 D Qd :=
  lcLf ρ f (fun _ => true) hD hx hn (fun i y H Kt Kf hy s h _ => hs i y H Kt Kf hy s (h rfl)) (fun H s h => hd H s (by rw [h, List.filter_eq_self.mpr fun _ _ => rfl]))
theorem lcTf (ρ f : α → V) (q : α → Bool) {ys : List α} (hD : H1 D = none) (hx : SqT K H1 a (ys.map ρ)) (hn : ys.length ≤ 100000)
    (hs : ∀ (i : Nat) (y : α) (H : Hp) (Kt : V → Hp → Prop) (Kf : Hp → Prop), ys[i]? = some y → Same H1 H → (q y = true → ∀ H4, Same H H4 → Kt (f y) H4) → (q y = false → ∀ H4, Same H H4 → Kf H4) → LcT g tt te vs σ (ρ y) H Kt Kf)
    (hd : ∀ H, Same H1 H → H D = some (.lst ((ys.filter q).map f)) → Qd H) : LcG (Itt K a) g tt te vs σ H1 D Qd :=
  lcTq (ysF f q ys) hD hx (by rw [List.length_map]; exact hn) (fun i x H Kt Kf hxi s qq => by
    obtain ⟨y, hy, rfl⟩ := of_map hxi
    exact hs i y H Kt Kf hy s (fun e H4 s4 => qq.yes _ _ s4 (by unfold ysF; rw [hy]; exact if_pos e)) (fun e H4 s4 => qq.no _ s4 (by unfold ysF; rw [hy]; exact if_neg (by rw [e]; simp))))
    (fun H s h => hd H s (by rw [h, List.length_map, ysF_all]))
theorem lcTm (ρ f : α → V) {ys : List α} (hD : H1 D = none) (hx : SqT K H1 a (ys.map ρ)) (hn : ys.length ≤ 100000)
    (hs : ∀ (i : Nat) (y : α) (H : Hp) (Kt : V → Hp → Prop) (Kf : Hp → Prop), ys[i]? = some y → Same H1 H → (∀ H4, Same H H4 → Kt (f y) H4) → LcT g tt te vs σ (ρ y) H Kt Kf)
    (hd : ∀ H, Same H1 H → H D = some (.lst (ys.map f)) → Qd H) : LcG (Itt K a) g tt te vs σ H1 D Qd :=
  lcTf ρ f (fun _ => true) hD hx hn (fun i y H Kt Kf hy s h _ => hs i y H Kt Kf hy s (h rfl)) (fun H s h => hd H s (by rw [h, List.filter_eq_self.mpr fun _ _ => rfl]))
theorem range_get {n i : Nat} (h : i < n) : (List.range n)[i]? = some i := List.getElem?_range h
theorem lcRf {lo : Int} {n : Nat} (f : Nat → V) (q : Nat → Bool) (hD : H1 D = none) (hn : n ≤ 100000)
    (hs : ∀ (i : Nat) (H : Hp) (Kt : V → Hp → Prop) (Kf : Hp → Prop), i < n → Same H1 H → (q i = true → ∀ H4, Same H H4 → Kt (f i) H4) → (q i = false → ∀ H4, Same H H4 → Kf H4) → LcT g tt te vs σ (.int (lo + i)) H Kt Kf)
    (hd : ∀ H, Same H1 H → H D = some (.lst (((List.range n).filter q).map f)) → Qd H) : LcG (Itr lo n) g tt te vs σ H1 D Qd :=
  lcRq (ysF f q (List.range n)) hD hn (fun i H Kt Kf hi s qq =>
    hs i H Kt Kf hi s (fun e H4 s4 => qq.yes _ _ s4 (by unfold ysF; rw [range_get hi]; exact if_pos e)) (fun e H4 s4 => qq.no _ s4 (by unfold ysF; rw [range_get hi]; exact if_neg (by rw [e]; simp))))
    (fun H s h => hd H s (by have := ysF_all f q (List.range n); rw [List.length_range] at this; rw [h, this]))
theorem lcRm {lo : Int} {n : Nat} (f : Nat → V) (hD : H1 D = none) (hn : n ≤ 100000)
    (hs : ∀ (i : Nat) (H : Hp) (Kt : V → Hp → Prop) (Kf : Hp → Prop), i < n → Same H1 H → (∀ H4, Same H H4 → Kt (f i) H4) → LcT g tt te vs σ (.int (lo + i)) H Kt Kf)
    (hd : ∀ H, Same H1 H → H D = some (.lst ((List.range n).map f)) → Qd H) : LcG (Itr lo n) g tt te vs σ H1 D Qd :=
  lcRf f (fun _ => true) hD hn (fun i H Kt Kf hi s h _ => hs i H Kt Kf hi s (h rfl)) (fun H s h => hd H s (by rw [h, List.filter_eq_self.mpr fun _ _ => rfl]))
/-- items that draw from the source at s -/
theorem lcRd {lo : Int} {n : Nat} (ρ : β → V) (R : Nat → β → Prop) (h0 : Src H1 s) (hD : H1 D = none) (hn : n ≤ 100000)
    (hs : ∀ (i : Nat) (H : Hp) (Kt : V → Hp → Prop) (Kf : Hp → Prop), i < n → Dr s H1 H → (∀ b H4, Dr s H H4 → R i b → Kt (ρ b) H4) → LcT g tt te vs σ (.int (lo + i)) H Kt Kf)
    (hd : ∀ (us : List β) (H : Hp), Dr s H1 H → us.length = n → (∀ (i : Nat) (b : β), us[i]? = some b → R i b) → D ≠ s → H D = some (.lst (us.map ρ)) → Qd H) : LcG (Itr lo n) g tt te vs σ H1 D Qd :=
  have nD : D ≠ s := h0.ne hD
  lcR (fun i acc H' => Dr s H1 H' ∧ ∃ us : List β, acc = us.map ρ ∧ us.length = i ∧ ∀ (i : Nat) (b : β), us[i]? = some b → R i b)
    (fun H' s' _ => ⟨Dr.of h0 s', [], rfl, rfl, fun i b h => by cases h⟩) hD (fun i acc H' Kt Kf hi p e kk => by
      obtain ⟨dp, us, rfl, hul, hub⟩ := p
      exact hs i H' Kt Kf hi dp fun b H4 d4 hR => kk.yes _ _ (d4.app nD e) (Nat.lt_of_lt_of_le (show _ < 100001 by rw [List.length_map]; omega) (by decide)) fun H5 b5 g5 => ⟨Dr.mut (dp.trans d4) b5 hD nD.symm, us ++ [b], by rw [List.map_append]; rfl, by rw [List.length_append, hul]; rfl, fun j c hc => by
        by_cases hj : j < us.length
        · rw [List.getElem?_append_left hj] at hc; exact hub j c hc
        · have hj2 : j = i := by
            have := (List.getElem?_eq_some_iff.mp hc).1
            rw [List.length_append] at this
            simp at this; omega
          subst hj2
          rw [← hul, List.getElem?_concat_length] at hc
          cases hc; exact hR⟩)
    (fun acc H' p e => by
      obtain ⟨dp, us, rfl, hul, hub⟩ := p
      exact hd us H' dp hul hub nD e)
theorem lcLd (ρ0 : α → V) (ρ : β → V) (R : Nat → β → Prop) {ys : List α} (h0 : Src H1 s) (hD : H1 D = none) (na : a ≠ s) (hx : SqL K H1 a (ys.map ρ0)) (hn : ys.length ≤ 100000)
    (hs : ∀ (i : Nat) (y : α) (H : Hp) (Kt : V → Hp → Prop) (Kf : Hp → Prop), ys[i]? = some y → Dr s H1 H → (∀ b H4, Dr s H H4 → R i b → Kt (ρ b) H4) → LcT g tt te vs σ (ρ0 y) H Kt Kf)
    (hd : ∀ (us : List β) (H : Hp), Dr s H1 H → us.length = ys.length → (∀ (i : Nat) (b : β), us[i]? = some b → R i b) → D ≠ s → H D = some (.lst (us.map ρ)) → Qd H) : LcG (Itl K a) g tt te vs σ H1 D Qd :=
  have nD : D ≠ s := h0.ne hD
  lcL (fun i acc H' => Dr s H1 H' ∧ ∃ us : List β, acc = us.map ρ ∧ us.length = i ∧ ∀ (i : Nat) (b : β), us[i]? = some b → R i b)
    (fun H' s' _ => ⟨Dr.of h0 s', [], rfl, rfl, fun i b h => by cases h⟩) hD (fun i acc H' p => p.1.seq na hx) (fun i x acc H' Kt Kf hxi p e kk => by
      obtain ⟨y, hy, rfl⟩ := of_map hxi
      have hi := (List.getElem?_eq_some_iff.mp hy).1
      obtain ⟨dp, us, rfl, hul, hub⟩ := p
      exact hs i y H' Kt Kf hy dp fun b H4 d4 hR => kk.yes _ _ (d4.app nD e) (Nat.lt_of_lt_of_le (show _ < 100001 by rw [List.length_map]; omega) (by decide)) fun H5 b5 g5 => ⟨Dr.mut (dp.trans d4) b5 hD nD.symm, us ++ [b], by rw [List.map_append]; rfl, by rw [List.length_append, hul]; rfl, fun j c hc => by
        by_cases hj : j < us.length
        · rw [List.getElem?_append_left hj] at hc; exact hub j c hc
        · have hj2 : j = i := by
            have := (List.getElem?_eq_some_iff.mp hc).1
            rw [List.length_append] at this
            simp at this; omega
          subst hj2
          rw [← hul, List.getElem?_concat_length] at hc
          cases hc; exact hR⟩)
    (fun acc H' p e => by
      obtain ⟨dp, us, rfl, hul, hub⟩ := p
      rw [List.length_map] at hul
      exact hd us H' dp hul hub nD e)
/-- items that are new objects: R holds of each, as long as nothing but the list itself changes -/
theorem lcLs (ρ0 : α → V) {ys : List α} (R : Nat → V → Hp → Prop) (mono : ∀ i v H H' acc, R i v H → H D = some (.lst acc) → But D H H' → R i v H') (hD : H1 D = none) (hx : SqL K H1 a (ys.map ρ0)) (hn : ys.length ≤ 100000)
    (hs : ∀ (i : Nat) (y : α) (H : Hp) (Kt : V → Hp → Prop) (Kf : Hp → Prop) (acc : List V), ys[i]? = some y → Same H1 H → H D = some (.lst acc) → (∀ v H4, Same H H4 → R i v H4 → Kt v H4) → LcT g tt te vs σ (ρ0 y) H Kt Kf)
    (hd : ∀ (us : List V) (H : Hp), Same H1 H → us.length = ys.length → (∀ (i : Nat) (b : V), us[i]? = some b → R i b H) → H D = some (.lst us) → Qd H) : LcG (Itl K a) g tt te vs σ H1 D Qd :=
  lcL (fun i acc H' => Same H1 H' ∧ acc.length = i ∧ ∀ (i : Nat) (b : V), acc[i]? = some b → R i b H')
    (fun H' s' _ => ⟨s', rfl, fun i b h => by cases h⟩) hD (fun i acc H' p => p.1.seq hx) (fun i x acc H' Kt Kf hxi p e kk => by
      obtain ⟨y, hy, rfl⟩ := of_map hxi
      have hi := (List.getElem?_eq_some_iff.mp hy).1
      obtain ⟨dp, hul, hub⟩ := p
      exact hs i y H' Kt Kf acc hy dp e fun b H4 s4 hR => kk.yes _ _ (s4 _ _ e) (Nat.lt_of_lt_of_le (show _ < 100001 by omega) (by decide)) fun H5 b5 g5 => ⟨Same.mut' (dp.trans s4) b5 hD, by rw [List.length_append, hul]; rfl, fun j c hc => by
        by_cases hj : j < acc.length
        · rw [List.getElem?_append_left hj] at hc
          exact mono _ _ _ _ _ (mono _ _ _ _ _ (hub j c hc) e (Same.but s4)) (s4 _ _ e) b5
        · have hj2 : j = i := by
            have := (List.getElem?_eq_some_iff.mp hc).1
            rw [List.length_append] at this
            simp at this; omega
          subst hj2
          rw [← hul, List.getElem?_concat_length] at hc
          cases hc; exact mono _ _ _ _ _ hR (s4 _ _ e) b5⟩)
    (fun acc H' p e => by
      obtain ⟨dp, hul, hub⟩ := p
      rw [List.length_map] at hul
      exact hd acc H' dp hul hub e)
/-- items that are drawn and are new objects -/
theorem lcRo {lo : Int} {n : Nat} (R : Nat → V → Hp → Prop) (monoD : ∀ i v H H' acc, R i v H → H D = some (.lst acc) → But D H H' → R i v H') (monoS : ∀ i v H H', R i v H → Src H s → Dr s H H' → R i v H') (h0 : Src H1 s) (hD : H1 D = none) (hn : n ≤ 100000)
    (hs : ∀ (i : Nat) (H : Hp) (Kt : V → Hp → Prop) (Kf : Hp → Prop) (acc : List V), i < n → Dr s H1 H → H D = some (.lst acc) → (∀ v H4, Dr s H H4 → R i v H4 → Kt v H4) → LcT g tt te vs σ (.int (lo + i)) H Kt Kf)
    (hd : ∀ (us : List V) (H : Hp), Dr s H1 H → us.length = n → (∀ (i : Nat) (b : V), us[i]? = some b → R i b H) → D ≠ s → H D = some (.lst us) → Qd H) : LcG (Itr lo n) g tt te vs σ H1 D Qd :=
  have nD : D ≠ s := h0.ne hD
  lcR (fun i acc H' => Dr s H1 H' ∧ acc.length = i ∧ ∀ (i : Nat) (b : V), acc[i]? = some b → R i b H')
    (fun H' s' _ => ⟨Dr.of h0 s', rfl, fun i b h => by cases h⟩) hD (fun i acc H' Kt Kf hi p e kk => by
      obtain ⟨dp, hul, hub⟩ := p
      exact hs i H' Kt Kf acc hi dp e fun b H4 d4 hR => kk.yes _ _ (d4.app nD e) (Nat.lt_of_lt_of_le (show _ < 100001 by omega) (by decide)) fun H5 b5 g5 => ⟨Dr.mut (dp.trans d4) b5 hD nD.symm, by rw [List.length_append, hul]; rfl, fun j c hc => by
        by_cases hj : j < acc.length
        · rw [List.getElem?_append_left hj] at hc
          exact monoD _ _ _ _ _ (monoS _ _ _ _ (hub j c hc) dp.s d4) (d4.app nD e) b5
        · have hj2 : j = i := by
            have := (List.getElem?_eq_some_iff.mp hc).1
            rw [List.length_append] at this
            simp at this; omega
          subst hj2
          rw [← hul, List.getElem?_concat_length] at hc
          cases hc; exact monoD _ _ _ _ _ hR (d4.app nD e) b5⟩)
    (fun acc H' p e => by
      obtain ⟨dp, hul, hub⟩ := p
      exact hd acc H' dp hul hub nD e)
/-- over a list that stands for another one -/
theorem lcLr {xs : List V} {qs : List α} (f : α → V) (q : α → Bool) (hl : xs.length = qs.length) (hD : H1 D = none) (hx : SqL K H1 a xs) (hn : xs.length ≤ 100000)
    (hs : ∀ (i : Nat) (x : V) (y : α) (H : Hp) (Kt : V → Hp → Prop) (Kf : Hp → Prop), xs[i]? = some x → qs[i]? = some y → Same H1 H → (q y = true → ∀ H4, Same H H4 → Kt (f y) H4) → (q y = false → ∀ H4, Same H H4 → Kf H4) → LcT g tt te vs σ x H Kt Kf)
    (hd : ∀ H, Same H1 H → H D = some (.lst ((qs.filter q).map f)) → Qd H) : LcG (Itl K a) g tt te vs σ H1 D Qd :=
  lcLq (ysF f q qs) hD hx hn (fun i x H Kt Kf hxi s qq => by
    have hi := (List.getElem?_eq_some_iff.mp hxi).1
    have hy : qs[i]? = some qs[i] := List.getElem?_eq_getElem (by omega)
    exact hs i x _ H Kt Kf hxi hy s (fun e H4 s4 => qq.yes _ _ s4 (by unfold ysF; rw [hy]; exact if_pos e)) (fun e H4 s4 => qq.no _ s4 (by unfold ysF; rw [hy]; exact if_neg (by rw [e]; simp))))
    (fun H s h => hd H s (by rw [h, hl, ysF_all]))
/-- over zip, by places -/
theorem lcZf {xs zs : List V} {n : Nat} (X Z f : Nat → V) (q : Nat → Bool) (lx : xs.length = n) (lz : zs.length = n) (hX : ∀ i, i < n → xs[i]? = some (X i)) (hZ : ∀ i, i < n → zs[i]? = some (Z i)) (hD : H1 D = none) (hx : SqL K H1 a xs) (hz : SqL K H1 b zs) (hn : n ≤ 100000)
    (hs : ∀ (i : Nat) (T : Addr) (H : Hp) (Kt : V → Hp → Prop) (Kf : Hp → Prop), i < n → Same H1 H → H T = some (.tup [X i, Z i]) → (q i = true → ∀ H4, Same H H4 → Kt (f i) H4) → (q i = false → ∀ H4, Same H H4 → Kf H4) → LcT g tt te vs σ (.ref T) H Kt Kf)
    (hd : ∀ H, Same H1 H → H D = some (.lst (((List.range n).filter q).map f)) → Qd H) : LcG (Itz K a b) g tt te vs σ H1 D Qd :=
  lcZq (xs := xs) (zs := zs) (ysF f q (List.range n)) (by rw [lx, lz]) hD hx hz (by omega) (fun i x z T H Kt Kf hxi hzi s gT qq => by
    have hi : i < n := by have := (List.getElem?_eq_some_iff.mp hxi).1; omega
    rw [hX i hi] at hxi
    rw [hZ i hi] at hzi
    cases hxi
    cases hzi
    exact hs i T H Kt Kf hi s gT (fun e H4 s4 => qq.yes _ _ s4 (by unfold ysF; rw [range_get hi]; exact if_pos e)) (fun e H4 s4 => qq.no _ s4 (by unfold ysF; rw [range_get hi]; exact if_neg (by rw [e]; simp))))
    (fun H s h => hd H s (by have := ysF_all f q (List.range n); rw [List.length_range] at this; rw [h, lx, this]))
theorem lcZm {xs zs : List V} {n : Nat} (X Z f : Nat → V) (lx : xs.length = n) (lz : zs.length = n) (hX : ∀ i, i < n → xs[i]? = some (X i)) (hZ : ∀ i, i < n → zs[i]? = some (Z i)) (hD : H1 D = none) (hx : SqL K H1 a xs) (hz : SqL K H1 b zs) (hn : n ≤ 100000)
    (hs : ∀ (i : Nat) (T : Addr) (H : Hp) (Kt : V → Hp → Prop) (Kf : Hp → Prop), i < n → Same H1 H → H T = some (.tup [X i, Z i]) → (∀ H4, Same H H4 → Kt (f i) H4) → LcT g tt te vs σ (.ref T) H Kt Kf)
    (hd : ∀ H, Same H1 H → H D = some (.lst ((List.range n).map f)) → Qd H) : LcG (Itz K a b) g tt te vs σ H1 D Qd :=
  lcZf X Z f (fun _ => true) lx lz hX hZ hD hx hz hn (fun i T H Kt Kf hi s gT h _ => hs i T H Kt Kf hi s gT (h rfl)) (fun H s h => hd H s (by rw [h, List.filter_eq_self.mpr fun _ _ => rfl]))
/-- over a list, by places -/
theorem lcLxf {xs : List V} (f : Nat → V) (q : Nat → Bool) (hD : H1 D = none) (hx : SqL K H1 a xs) (hn : xs.length ≤ 100000)
    (hs : ∀ (i : Nat) (x : V) (H : Hp) (Kt : V → Hp → Prop) (Kf : Hp → Prop), xs[i]? = some x → Same H1 H → (q i = true → ∀ H4, Same H H4 → Kt (f i) H4) → (q i = false → ∀ H4, Same H H4 → Kf H4) → LcT g tt te vs σ x H Kt Kf)
    (hd : ∀ H, Same H1 H → H D = some (.lst (((List.range xs.length).filter q).map f)) → Qd H) : LcG (Itl K a) g tt te vs σ H1 D Qd :=
  lcLq (ysF f q (List.range xs.length)) hD hx hn (fun i x H Kt Kf hxi s qq => by
    have hi := (List.getElem?_eq_some_iff.mp hxi).1
    exact hs i x H Kt Kf hxi s (fun e H4 s4 => qq.yes _ _ s4 (by unfold ysF; rw [range_get hi]; exact if_pos e)) (fun e H4 s4 => qq.no _ s4 (by unfold ysF; rw [range_get hi]; exact if_neg (by rw [e]; simp))))
    (fun H s h => hd H s (by have := ysF_all f q (List.range xs.length); rw [List.length_range] at this; rw [h, this]))
theorem lcLx {xs : List V} (f : Nat → V) (hD : H1 D = none) (hx : SqL K H1 a xs) (hn : xs.length ≤ 100000)
    (hs : ∀ (i : Nat) (x : V) (H : Hp) (Kt : V → Hp → Prop) (Kf : Hp → Prop), xs[i]? = some x → Same H1 H → (∀ H4, Same H H4 → Kt (f i) H4) → LcT g tt te vs σ x H Kt Kf)
    (hd : ∀ H, Same H1 H → H D = some (.lst ((List.range xs.length).map f)) → Qd H) : LcG (Itl K a) g tt te vs σ H1 D Qd :=
  lcLxf f (fun _ => true) hD hx hn (fun i x H Kt Kf hx s h _ => hs i x H Kt Kf hx s (h rfl)) (fun H s h => hd H s (by rw [h, List.filter_eq_self.mpr fun _ _ => rfl]))
end
theorem all_true (n : Nat) : ((List.range n).map fun _ => true).all id = true := by simp
theorem bls (n : Nat) (f : Nat → Bool) : (List.range n).map (fun i => V.bl (f i)) = ((List.range n).map f).map V.bl := by rw [List.map_map]; rfl
/-- isinstance(x, (T1, T2)) of plain things -/
def rIs2 (T1 T2 : String) (ans : V → String → Bool) : List V → Hp → VK → Prop := fun xs H Q => ∃ (x : V) (tp : Addr) (t : String), xs = [x, .ref tp] ∧ Ty7 H x t ∧ H tp = some (.tup [.ty T1, .ty T2]) ∧ Q (.bl (ans x t)) H
theorem call_isTy2 {X : Cx} (T1 T2 : String) (a1 a2 : V → String → Bool) (h1 : ∀ H x t, Ty7 H x t → kitB t T1 = some (a1 x t)) (h2 : ∀ H x t, Ty7 H x t → kitB t T2 = some (a2 x t)) : CallR X (.builtin "isinstance") (rIs2 T1 T2 fun x t => a1 x t || a2 x t) :=
  callR_imp call_isiT fun _ H Q ⟨x, tp, t, e, ht, hp, q⟩ => ⟨x, tp, [.ty T1, .ty T2], _, [.type T1, .type T2], _, e, hp, .cons (.ty _) (.cons (.ty _) .nil), ht.tx, kitAny_cons (b := a1 x t) (kit_ty (h1 H x t ht)) (fun e1 => kitAny_cons (b := a2 x t) (kit_ty (h2 H x t ht)) (fun e2 => by simp only [e1, e2]; rfl) (fun e2 => by simp only [e1, e2]; rfl)) (fun e1 => by simp only [e1]; rfl), q⟩
theorem is_strtup {X : Cx} : CallR X (.builtin "isinstance") (rIs2 "str" "tuple" fun _ t => decide (t = "str") || decide (t = "tuple")) := call_isTy2 _ _ (fun _ t => decide (t = "str")) (fun _ t => decide (t = "tuple")) (fun _ _ _ h => h.ks) (fun _ _ _ h => h.kt)
/-- a list or a tuple -/
def SqE (K : PySem.W.Frag) (H : Hp) (a : Addr) (xs : List V) : Prop := SqL K H a xs ∨ SqT K H a xs
theorem SqE.same {K : PySem.W.Frag} {H H' : Hp} {a : Addr} {xs : List V} (h : SqE K H a xs) (s : Same H H') : SqE K H' a xs := h.imp (fun h => s.seq h) (fun h => Same.seqT s h)
theorem But.seqT {K : PySem.W.Frag} {H H' : Hp} {a b : Addr} {xs : List V} (e : But a H H') (n : b ≠ a) (h : SqT K H b xs) : SqT K H' b xs := by
  rcases h with (h | ⟨o, h⟩) | h
  · exact .inl (.inl (e _ _ n h))
  · exact .inl (.inr ⟨o, e _ _ n h⟩)
  · exact .inr h
theorem SqE.but {K : PySem.W.Frag} {H H' : Hp} {a b : Addr} {xs : List V} (h : SqE K H b xs) (e : But a H H') (n : b ≠ a) : SqE K H' b xs := h.imp (fun h => e.seq n h) (fun h => e.seqT n h)
theorem ixE {K : PySem.W.Frag} {H : Hp} {a : Addr} {xs : List V} {i : Int} {v : V} {Q : VK} (h : SqE K H a xs) (e : atI xs i = some v) (q : Q v H) : rIx K (.ref a) (.int i) H Q := by
  rcases h with h | h
  · exact .inl ⟨_, _, _, _, rfl, rfl, h, e, q⟩
  · exact .inr (.inl ⟨_, _, _, _, rfl, rfl, h, e, q⟩)
theorem atI_add {xs : List V} {f i : Nat} {v : V} (h : xs[f + i]? = some v) : atI xs ((f : Int) + (i : Int)) = some v := by
  rw [← Int.natCast_add]; exact atI_nat h
theorem pick_list {α : Type} {P : V → α → Prop} : ∀ (us : List V), (∀ (i : Nat) (v : V), us[i]? = some v → ∃ t, P v t) → ∃ ts : List α, us.length = ts.length ∧ ∀ (i : Nat) (v : V) (t : α), us[i]? = some v → ts[i]? = some t → P v t
  | [], _ => ⟨[], rfl, fun i v t h => by simp at h⟩
  | u :: us, h => by
    obtain ⟨t, ht⟩ := h 0 u rfl
    obtain ⟨ts, hl, hts⟩ := pick_list us fun i v hv => h (i + 1) v hv
    refine ⟨t :: ts, by rw [List.length_cons, List.length_cons, hl], fun i v t' hv ht' => ?_⟩
    cases i with
    | zero => cases hv; cases ht'; exact ht
    | succ i => exact hts i v t' hv ht'
end My

open PySem L2 My
/-! ### short steps -/
local macro_rules | `(tactic| tm_at "hp") => `(tactic| first
  | with_reducible assumption
  | exact upd_same
  | (with_reducible refine upd_keep ?hpn ?hpr; (case hpn => with_reducible assumption); (case hpr => tm_at "hp"))
  | (refine Eq.trans (upd_ne ?hpn) ?hpr; (case hpn => tm_at "ne"); (case hpr => tm_at "hp"))
  | (refine' Same.app ?hps ?hpr; (case hps => with_reducible assumption); (case hpr => tm_at "hp"))
  | (refine' Dr.app ?hps ?hpn ?hpr; (case hps => with_reducible assumption); (case hpr => tm_at "hp"); (case hpn => tm_at "ne"))
  | (refine' But.app ?hps ?hpn ?hpr; (case hps => with_reducible assumption); (case hpr => tm_at "hp"); (case hpn => tm_at "ne")))
local macro_rules | `(tactic| tm_at "ne") => `(tactic| first
  | with_reducible assumption
  | (with_reducible refine Ne.symm ?nes; (case nes => with_reducible assumption))
  | (refine' ne_of_none ?nea ?neb; (case neb => with_reducible assumption); (case nea => tm_at "hp"))
  | (refine' Src.ne ?nea ?neb; (case neb => with_reducible assumption); (case nea => tm_at "sr"))
  | (refine' Ne.symm (Src.ne ?nea ?neb); (case neb => with_reducible assumption); (case nea => tm_at "sr"))
  | (refine' Ne.symm (ne_of_none ?nea ?neb); (case neb => with_reducible assumption); (case nea => tm_at "hp")))
/-- a list, a tuple that stands -/
local macro_rules | `(tactic| tm_at "sql") => `(tactic| first
  | with_reducible assumption
  | (refine sqL ?sqa; (case sqa => tm_at "hp"))
  | (refine' Same.seq ?sqs ?sqa; (case sqs => with_reducible assumption); (case sqa => tm_at "sql"))
  | (refine' Dr.seq ?sqs ?sqn ?sqa; (case sqs => with_reducible assumption); (case sqa => tm_at "sql"); (case sqn => tm_at "ne"))
  | (refine' But.seq ?sqs ?sqn ?sqa; (case sqs => with_reducible assumption); (case sqa => tm_at "sql"); (case sqn => tm_at "ne")))
/-- all but a stands; all stands -/
local macro_rules | `(tactic| tm_at "bt") => `(tactic| first
  | with_reducible assumption
  | with_reducible exact But.refl
  | (with_reducible refine But.upd ?btx; (case btx => tm_at "bt"))
  | (with_reducible refine But.new ?btx ?bty; (case bty => with_reducible assumption); (case btx => tm_at "bt"))
  | (refine' But.trans ?btx ?bty; (case bty => with_reducible assumption); (case btx => tm_at "bt"))
  | (refine' But.trans ?btx (Same.but ?bty); (case bty => with_reducible assumption); (case btx => tm_at "bt")))
local macro_rules | `(tactic| tm_at "sm") => `(tactic| first
  | with_reducible assumption
  | with_reducible exact Same.refl _
  | (with_reducible refine Same.new ?btx ?bty; (case bty => with_reducible assumption); (case btx => tm_at "sm"))
  | (with_reducible refine Same.mut ?btx ?bty; (case bty => with_reducible assumption); (case btx => tm_at "sm"))
  | (refine' Same.mut' ?btx ?bty ?btn; (case bty => with_reducible assumption); (case btx => tm_at "sm"); (case btn => tm_at "fr"))
  | (refine' Same.trans ?btx ?bty; (case bty => with_reducible assumption); (case btx => tm_at "sm")))
/-- the source stands; draws from there to here -/
local macro_rules | `(tactic| tm_at "sr") => `(tactic| first
  | with_reducible assumption
  | (refine' Dr.s ?srd; (case srd => with_reducible assumption))
  | (refine' Src.same ?srh ?srd; (case srd => with_reducible assumption); (case srh => tm_at "sr"))
  | (refine' Src.but ?srh ?srd ?srn; (case srd => with_reducible assumption); (case srh => tm_at "sr"); (case srn => tm_at "ne")))
local macro_rules | `(tactic| tm_at "dr") => `(tactic| first
  | with_reducible assumption
  | (refine' Dr.trans ?drx ?dry; (case dry => with_reducible assumption); (case drx => tm_at "dr"))
  | (refine' Dr.same ?drx ?dry; (case dry => with_reducible assumption); (case drx => tm_at "dr"))
  | (refine' Dr.mut ?drx ?dry ?drn ?drm; (case dry => with_reducible assumption); (case drx => tm_at "dr"); (case drn => tm_at "fr"); (case drm => tm_at "ne"))
  | (refine' Dr.of ?drx ?dry; (case drx => tm_at "sr"); (case dry => tm_at "sm"))
  | (refine Dr.refl ?drx; (case drx => tm_at "sr")))
/-- nothing stood there -/
local macro_rules | `(tactic| tm_at "fr") => `(tactic| first
  | with_reducible assumption
  | (refine' Same.free ?frs ?frh; (case frh => with_reducible assumption); (case frs => tm_at "sm"))
  | (refine' Dr.free ?frs ?frh ?frn; (case frh => with_reducible assumption); (case frs => tm_at "dr"); (case frn => tm_at "ne")))
/-- an int's condition -/
local macro_rules | `(tactic| tm_at "ic") => `(tactic| first
  | assumption
  | omega
  | exact Nat.le_of_ble_eq_true rfl
  | exact ⟨by decide, by decide +kernel⟩
  | exact Or.inr ⟨by omega, by omega⟩
  | exact Or.inl ⟨by omega, by omega⟩
  | exact Or.inr ⟨by decide, by decide⟩
  | exact ⟨by decide, by decide, by decide⟩
  | exact wide_div (b := 64) (by omega) (by omega) (by decide) (by decide)
  | decide
  | tm_at "sr")
/-- a plain thing's kind -/
local macro_rules | `(tactic| tm_at "t7") => `(tactic| first
  | with_reducible assumption
  | with_reducible exact Ty7.int _
  | with_reducible exact Ty7.bl _
  | with_reducible exact Ty7.non
  | with_reducible exact Ty7.str _
  | (refine' Ty7.lst ?t7h; (case t7h => tm_at "hp"))
  | (refine' Ty7.tup ?t7h; (case t7h => tm_at "hp")))
/-- one step of a reading -/
local macro_rules | `(tactic| tm_at "rd") => `(tactic| first
  | refine ⟨_, rfl, ?_⟩
  | refine ⟨_, _, rfl, rfl, ?_⟩
  | (refine And.intro ?rdc ?_; (case rdc => (first | tm_at "ic" | (dsimp only; tm_at "ic"))))
  | refine ⟨_, _, rfl, ?_⟩
  | refine ⟨rfl, ?_⟩
  | (refine' ⟨_, _, rfl, ?rd7, ?_⟩; (case rd7 => tm_at "t7"))
  | (refine' ⟨_, _, rfl, Or.inl ⟨_, ?rdl, rfl⟩, ?_⟩; (case rdl => tm_at "sql"))
  | refine Or.inl ⟨_, rfl, ?_⟩
  | refine Or.inr ⟨_, rfl, ?_⟩)
local macro_rules | `(tactic| tm_at "rds") => `(tactic| repeat (tm_at "rd"))
/-- a tuple that stands -/
local macro_rules | `(tactic| tm_at "sqt") => `(tactic| first
  | with_reducible assumption
  | (refine sqT ?sqa; (case sqa => tm_at "hp"))
  | (refine' Same.seqT ?sqs ?sqa; (case sqs => with_reducible assumption); (case sqa => tm_at "sqt"))
  | (refine' Dr.seqT ?sqs ?sqn ?sqa; (case sqs => with_reducible assumption); (case sqa => tm_at "sqt"); (case sqn => tm_at "ne")))
/-- more steps: tests that are plain, items by a plain index, the length of a tuple -/
local macro_rules | `(tactic| tm_at "rz") => `(tactic| first
  | (refine' And.intro (Or.inl (And.intro rfl (Exists.intro _ ?rzt))) ?_; (case rzt => tm_at "sql"))
  | tm_at "rd"
  | (refine' ⟨_, _, rfl, Or.inr ⟨_, ?rdl, rfl⟩, ?_⟩; (case rdl => tm_at "sqt"))
  | (refine' ⟨_, _, _, _, rfl, rfl, ?rzl, ?rzi, ?_⟩; (case rzl => (first | tm_at "sql" | tm_at "sqt")); (case rzi => exact rfl))
  | (refine iteF' ?rzb ?_; (case rzb => (first | with_reducible rfl | rfl | decide)))
  | (refine iteT' ?rzb ?_; (case rzb => (first | with_reducible rfl | rfl | decide))))
local macro_rules | `(tactic| tm_at "rzs") => `(tactic| repeat (tm_at "rz"))
/-- .. up to an if that has something behind it -/
local macro_rules | `(tactic| tm_at "rzi") => `(tactic| repeat ((try dsimp only [gName]); (fail_if_success (with_reducible refine isIf ?_)); tm_at "rz"))
/-! ### own errors -/
namespace My
open PySem PySem.Spec PyProof.Rows L2
structure Ex (K : PySem.W.Frag) (mg : Str → Option Value) (x : Str) where
  C : Addr
  g : mg x = some (.ref C)
  x : PySem.W.excIn K C [.type "ValueError", .type "Exception", .type "BaseException", .type "object"] "ValueError.__new__" = true
  k : PySem.W.keepIn K (.ref C) = true
  b : PySem.W.subIn K (.ref C) (.type "BaseException") = some true
  t : PySem.W.typeIn K (.ref C) = some (.type "type")
  E : ExcC K C
def ex_mk {K : PySem.W.Frag} {mg : Str → Option Value} {x : Str} {h : Heap} (X : K.In h) (G : h.Ns mainGlobals mg) {C : Addr} (g : PySem.W.nsIn K mainGlobals x = some (some (.ref C)))
    (x1 : PySem.W.excIn K C [.type "ValueError", .type "Exception", .type "BaseException", .type "object"] "ValueError.__new__" = true) (x2 : PySem.W.keepIn K (.ref C) = true) (x3 : PySem.W.subIn K (.ref C) (.type "BaseException") = some true) (x4 : PySem.W.typeIn K (.ref C) = some (.type "type"))
    (y1 : PySem.W.findIn K (.ref C) "__getattribute__" = some (some (.builtin "BaseException.__getattribute__"))) (y2 : PySem.W.findIn K (.ref C) "__getattr__" = some none) (y3 : PySem.W.hasDictIn K C = true) (y4 : PySem.W.findIn K (.ref C) "__class__" = some (some (.builtin "object.__class__")))
    (y5 : PySem.W.specialIn K (.builtin "object.__class__") "__get__" = some (some (.builtin "getset_descriptor.__get__"))) (y6 : PySem.W.takesIn K (.builtin "object.__class__") = some true) (y7 : PySem.W.mroIn K C (.type "object") = some true) : Ex K mg x :=
  ⟨C, PySem.W.mg_of X G g, x1, x2, x3, x4, ⟨y1, y2, x3, y3, y4, y5, y6, y7⟩⟩
section
variable {K : PySem.W.Frag} {mg : Str → Option Value} {x y : Str} {cv : Value} {b : Bool}
theorem Ex.exm (e : Ex K mg x) (h : PySem.W.subIn K cv (.ref e.C) = some b) : PySem.W.exmOne K cv (.ref e.C) = some b := PySem.W.exm_ref e.b e.E.hd e.t h
theorem Ex.kcls (e : Ex K mg x) (h : PySem.W.subIn K cv (.ref e.C) = some b) : PySem.W.kitCls K cv (.ref e.C) = some b := by
  have hc : (PySem.W.clsIn K e.C).isSome = true := by
    have := e.E.hd
    unfold PySem.W.hasDictIn at this
    cases q : PySem.W.clsIn K e.C with
    | none => rw [q] at this; cases this
    | some c => rfl
  have e2 : ((PySem.W.clsIn K e.C).isSome && PySem.W.typeIn K (.ref e.C) == some (.type "type")) = true := by rw [hc, e.t] <;> rfl
  show (if ((PySem.W.clsIn K e.C).isSome && PySem.W.typeIn K (.ref e.C) == some (.type "type")) = true then PySem.W.subIn K cv (.ref e.C) else none) = some b
  rw [if_pos e2]
  exact h
/-- isinstance of an error's class: by the chains of the two classes -/
theorem Ex.kit (d : Ex K mg y) (e : Ex K mg x) (s : PySem.W.subIn K (.ref d.C) (.ref d.C) = some true) (h : PySem.W.subIn K (.ref d.C) (.ref e.C) = some b) : PySem.W.kitOne K (.ref d.C) (.ref e.C) = some b := by
  unfold PySem.W.kitOne
  split
  · next q =>
    have z : (Value.ref d.C) = .ref e.C := beq_iff_eq.mp q
    rw [← z, s] at h
    cases h
    rfl
  · exact e.kcls h
theorem Ex.kitT (d : Ex K mg y) {n : String} (h : PySem.W.subIn K (.ref d.C) (.type n) = some b) (m : PySem.W.kitMeta n = true := by decide +kernel) : PySem.W.kitOne K (.ref d.C) (.type n) = some b := by
  unfold PySem.W.kitOne
  split
  · next q =>
    have z : (Value.ref d.C) = .type n := beq_iff_eq.mp q
    cases z
  · show (if PySem.W.kitMeta n = true then PySem.W.subIn K (.ref d.C) (.type n) else none) = some b
    rw [if_pos m]
    exact h
end
/-- an error class that is only asked about -/
structure Ec (K : PySem.W.Frag) (mg : Str → Option Value) (x : Str) where
  C : Addr
  g : mg x = some (.ref C)
  t : PySem.W.typeIn K (.ref C) = some (.type "type")
  d : PySem.W.hasDictIn K C = true
def ec_mk {K : PySem.W.Frag} {mg : Str → Option Value} {x : Str} {h : Heap} (X : K.In h) (G : h.Ns mainGlobals mg) {C : Addr} (g : PySem.W.nsIn K mainGlobals x = some (some (.ref C)))
    (x1 : PySem.W.typeIn K (.ref C) = some (.type "type")) (x2 : PySem.W.hasDictIn K C = true) : Ec K mg x := ⟨C, PySem.W.mg_of X G g, x1, x2⟩
theorem Ex.kitC {K : PySem.W.Frag} {mg : Str → Option Value} {x y : Str} {b : Bool} (d : Ex K mg y) (e : Ec K mg x) (s : PySem.W.subIn K (.ref d.C) (.ref d.C) = some true) (h : PySem.W.subIn K (.ref d.C) (.ref e.C) = some b) : PySem.W.kitOne K (.ref d.C) (.ref e.C) = some b := by
  unfold PySem.W.kitOne
  split
  · next q =>
    have z : (Value.ref d.C) = .ref e.C := beq_iff_eq.mp q
    rw [← z, s] at h
    cases h
    rfl
  · have hc : (PySem.W.clsIn K e.C).isSome = true := by
      have := e.d
      unfold PySem.W.hasDictIn at this
      cases q : PySem.W.clsIn K e.C with
      | none => rw [q] at this; cases this
      | some c => rfl
    have e2 : ((PySem.W.clsIn K e.C).isSome && PySem.W.typeIn K (.ref e.C) == some (.type "type")) = true := by rw [hc, e.t] <;> rfl
    show (if ((PySem.W.clsIn K e.C).isSome && PySem.W.typeIn K (.ref e.C) == some (.type "type")) = true then PySem.W.subIn K (.ref d.C) (.ref e.C) else none) = some b
    rw [if_pos e2]
    exact h
/-- isinstance(e, c) in a suite, the error's class told in the reading -/
def rIsX (K : PySem.W.Frag) (cls : Value) (d : Option Addr) (a : Addr) : List V → Hp → VK → Prop := fun xs H Q => ∃ (D : Addr) (c : V) (cv : Value) (b : Bool), cls = .ref D ∧ d = none ∧ ExcC K D ∧ xs = [.ref a, c] ∧ (∀ u, RelV c u → u = cv) ∧ PySem.W.kitOne K (.ref D) cv = some b ∧ Q (.bl b) H
theorem call_isX {X : Cx} {a : Addr} {cls : Value} {d : Option Addr} {oe : Obj} {pn : List (Addr × Obj)} (hz : Zc cls d oe) (hf : ∃ vs, oe.data = .fields vs) : CallR (X.suite a ((a, oe) :: pn)) (.builtin "isinstance") (rIsX X.K cls d a) := by
  intro pins s σ H xs us Q I r h
  obtain ⟨D, c, cv, b, rfl, rfl, C, e, hc, hk, q⟩ := h
  exact call_isE C hz hf pins s σ H xs us Q I r ⟨c, cv, b, e, hc, hk, q⟩
section
variable {X : Cx}
/-- [..].count(x), of flat ones -/
def rCntF (K : PySem.W.Frag) : V → List V → Hp → VK → Prop := fun x xs H Q => ∃ (a : Addr) (ys : List V) (y : V), x = .ref a ∧ xs = [y] ∧ SqL K H a ys ∧ flatV y = true ∧ ys.all flatV = true ∧ Q (.int (ys.countP (fun z => eqV z y) : Nat)) H
theorem cnt_flat {y : V} : ∀ {us : List Value} {ys : List V}, Vals ys us → ys.all flatV = true → us.countP (eqU y) = ys.countP (fun z => eqV z y)
  | _, _, .nil, _ => rfl
  | _, _, .cons r t, f => by
    rw [List.all_cons, Bool.and_eq_true] at f
    rw [List.countP_cons, List.countP_cons, cnt_flat t f.2, eqU_of r f.1]
theorem mt_countF : MtR X "list.count" (rCntF X.K) := by
  intro pins s σ H x xs v us Q I rx rxs h
  obtain ⟨a, ys, y, rfl, rfl, hs, fy, fys, q⟩ := h
  cases rx
  cases rxs with
  | cons ry rt =>
    rename_i uy ut
    cases rt
    obtain ⟨its, rv, ⟨⟨cls, dd, data, sl⟩, n, ho, hc, hdn, hd⟩, hlen⟩ := I.list hs
    simp only at hc hd
    subst hc hd
    refine call_meets PySem.F.slot_list_count ⟨_, ho, rfl⟩ PySem.F.entry_list_count (PySem.F.args_list_count_2 _ _)
      (SeqAt.list_countAt a its.toArray n dd sl uy (eqU y)) ⟨ho, fun u' hu' => mem_eqAt ry fy rv fys u' (by simpa using hu'), ?_⟩
    refine ⟨.int (ys.countP (fun z => eqV z y) : Nat), H, I.tok _, ⟨s.toks, ?_⟩, q⟩
    show Value.int ((its.toArray.toList.countP (eqU y) : Nat) : Int) s.toks = Value.int ((ys.countP (fun z => eqV z y) : Nat) : Int) s.toks
    rw [show its.toArray.toList = its from rfl, cnt_flat rv fys]
theorem mt_countFK {K : PySem.W.Frag} (h : X.K = K) : MtR X "list.count" (rCntF K) := by subst h; exact mt_countF
theorem mt_indexK {K : PySem.W.Frag} (h : X.K = K) : MtR X "list.index" (L2.rIndex K) := by subst h; exact mt_index
theorem pe_bmK {K : PySem.W.Frag} {T name id : String} {r : V → List V → Hp → VK → Prop} {o e : Expr} {es : List Expr} {to : TE} {t : TA} {apos cpos : Pos} (h : X.K = K) (pa : PlainAttrs T) (slot : Slot T name id) (hty : typeOf (.builtin id) = pure (.type "method_descriptor")) (hm : MtR X id r) (ho : PE X o to) (ha : PA X (e :: es) t)
    (hbase : attributeBase o name X.env (eval o X.env) = eval o X.env := by rfl)
    (hfew : ((backTo cpos (starEach (e :: es) X.env)).all (fun x => !x.1) && (backToKw cpos (keywordEach [] X.env)).all (fun x => x.1.isSome)
      && decide ((e :: es).length + ([] : List Keyword).length + (if ([] : List Keyword).isEmpty then 0 else 1) < 30)) = true := by rfl)
    (hline : (apos.endLine == cpos.line) = true := by rfl) (hs : starEach (e :: es) X.env = (false, eval e X.env) :: starEach es X.env := by rfl) (hplain : (backTo cpos (starEach es X.env)).any (·.1) = false := by rfl) :
    PE X (.Call (.Attribute o name apos) (e :: es) [] cpos) (tBM K T r to t) := by
  subst h
  exact pe_bm pa slot hty hm ho ha hbase hfew hline hs hplain
theorem op_eqVK {K : PySem.W.Frag} (hu : X.A.units + 64 < cLine) (h : X.K = K) : OpR X (compareOp .Eq) (rEqV K) := by subst h; exact op_eqV hu
end
end My

/-! ### != of lists of like items: the same ones, or lists of the same ones -/
namespace My
open PySem PySem.Spec PyProof.Rows L2
def PlainQ (x : V) : Prop := flatB x = true ∨ ∃ r, x = .ref r
def EqQ (K : PySem.W.Frag) (H : Hp) (u v : V) : Prop := (u = v ∧ PlainQ u) ∨ ∃ a b zs, u = .ref a ∧ v = .ref b ∧ SqL K H a zs ∧ SqL K H b zs ∧ ∀ z ∈ zs, PlainQ z
def rNeQ (K : PySem.W.Frag) : R2 := fun x y H Q => ∃ a b xs ys, x = .ref a ∧ y = .ref b ∧ SqL K H a xs ∧ SqL K H b ys ∧ Paired (EqQ K H) xs ys ∧ Q (.bl false) H
theorem plainQ_at {A : Around} {s : Shared} {x : V} {u w : Value} (h : PlainQ x) (r : RelV x u) (r' : RelV x w) : SeqAt.EqAt A s u w true := by
  rcases h with h | ⟨a, rfl⟩
  · exact eqAt_same r r' h
  · cases (show u = Value.ref a from r)
    cases (show w = Value.ref a from r')
    exact SeqAt.EqAt.same _
theorem plainQ_all {A : Around} {s : Shared} : ∀ {xs : List V} {us ws : List Value}, (∀ x ∈ xs, PlainQ x) → Vals xs us → Vals xs ws → ∀ j (h1 : j < us.length) (h2 : j < ws.length), SeqAt.EqAt A s us[j] ws[j] true
  | _, _, _, _, .nil, .nil, j, h1, _ => absurd h1 (Nat.not_lt_zero j)
  | _, _, _, hp, .cons a1 b1, .cons a2 b2, 0, _, _ => plainQ_at (hp _ List.mem_cons_self) a1 a2
  | _, _, _, hp, .cons a1 b1, .cons a2 b2, j + 1, h1, h2 => plainQ_all (fun y hy => hp y (List.mem_cons_of_mem _ hy)) b1 b2 j (Nat.lt_of_succ_lt_succ h1) (Nat.lt_of_succ_lt_succ h2)
section
variable {X : Cx} {pins : List (Addr × Obj)} {σ : L2.St} {H : Hp} {s : Shared}
theorem eqQ_at (I : Inv X pins σ H s) {A : Around} (hu : A.units < cLine) {x y : V} {u w : Value} (h : EqQ X.K H x y) (r : RelV x u) (r' : RelV y w) : SeqAt.EqAt A s u w true := by
  rcases h with ⟨rfl, hp⟩ | ⟨a, b, zs, rfl, rfl, ha, hb, hp⟩
  · exact plainQ_at hp r r'
  · cases (show u = Value.ref a from r)
    cases (show w = Value.ref b from r')
    by_cases e : a = b
    · subst e; exact SeqAt.EqAt.same _
    · obtain ⟨us, r1, p1, _⟩ := I.list ha
      obtain ⟨ws, r2, p2, _⟩ := I.list hb
      have hsz : us.toArray.size = ws.toArray.size := by
        rw [List.size_toArray, List.size_toArray, ← r1.length, ← r2.length]
      refine SeqAt.EqAt.of_refs e ?_
      have k := SeqAt.RcAt.lists (e := fun _ => true) p1.isList p2.isList hsz hu (A := A) (fun j h1 h2 => by
        have := plainQ_all (A := A.in1) (s := s) hp r1 r2 j (by simpa using h1) (by simpa using h2)
        simpa using this)
      rwa [show ((List.range us.toArray.size).all fun _ => true) = true from List.all_eq_true.mpr fun _ _ => rfl] at k
theorem eqQ_all (I : Inv X pins σ H s) {A : Around} (hu : A.units < cLine) {xs ys : List V} (h : Paired (EqQ X.K H) xs ys) : ∀ {us ws : List Value}, Vals xs us → Vals ys ws → ∀ j (h1 : j < us.length) (h2 : j < ws.length), SeqAt.EqAt A s us[j] ws[j] true := by
  induction h with
  | nil =>
    intro us ws r1 r2 j h1 h2
    cases r1
    exact absurd h1 (Nat.not_lt_zero j)
  | cons h _ k =>
    intro us ws r1 r2 j h1 h2
    cases r1 with
    | cons a1 b1 =>
      cases r2 with
      | cons a2 b2 =>
        cases j with
        | zero => exact eqQ_at I hu h a1 a2
        | succ j => exact k b1 b2 j (Nat.lt_of_succ_lt_succ h1) (Nat.lt_of_succ_lt_succ h2)
end
theorem op_neQ {X : Cx} (hu : X.A.units + 64 < cLine) : OpR X (compareOp .NotEq) (rNeQ X.K) := by
  intro pins s σ H x y v u Q I rx ry h
  obtain ⟨a, b, xs, ys, rfl, rfl, ha, hb, hp, q⟩ := h
  cases (show v = Value.ref a from rx)
  cases (show u = Value.ref b from ry)
  obtain ⟨us, r1, p1, _⟩ := I.list ha
  obtain ⟨ws, r2, p2, _⟩ := I.list hb
  have hsz : us.toArray.size = ws.toArray.size := by
    rw [List.size_toArray, List.size_toArray, ← r1.length, ← r2.length]
    exact Paired.length hp
  have k := SeqAt.RcNeAt.lists (e := fun _ => true) p1.isList p2.isList hsz (show X.A.units < cLine by omega) (fun j h1 h2 => by
    have := eqQ_all I (A := X.A.in1) (show X.A.units + 1 < cLine by omega) hp r1 r2 j (by simpa using h1) (by simpa using h2)
    simpa using this)
  rw [show ((List.range us.toArray.size).all fun _ => true) = true from List.all_eq_true.mpr fun _ _ => rfl] at k
  exact k _ _ _ _ ⟨.bl false, H, I, rfl, q⟩
theorem op_neQK {X : Cx} {K : PySem.W.Frag} (hu : X.A.units + 64 < cLine) (h : X.K = K) : OpR X (compareOp .NotEq) (rNeQ K) := by subst h; exact op_neQ hu
end My

/-! ### a plain thing != [] -/
namespace PySem.SeqAt
open MeetsSeq MeetsSeq2 MeetsSeq3
theorem my_list_ne_declines_dict (l b : Addr) (items : Array Value) (n : Nat) (dd : Option Addr) (sl : Array (Option Value)) (o : Obj) (ho : o.cls = .type "dict") :
    Meets (Builtin.«list.__ne__» ⟨[.ref l, .ref b], []⟩) (fun _ R s => s.heap.get? l = some { cls := .type "list", dict := dd, data := .seq items n, slots := sl } ∧ s.heap.get? b = some o ∧ R (.ok (.ret .notImplemented)) s) :=
  .of_wp fun prog w A R s h => by obtain ⟨hp, g, d, tk, os⟩ := s; obtain ⟨hl, hb, h⟩ := h; obtain ⟨cls, dd2, data2, sl2⟩ := o; subst ho; have f1 := F.sub_dict_list; wp_walk using _root_.PySem.AutoSeq1.wpAny_loadPart' hl, _root_.PySem.AutoSeq1.wpAny_loadPart' hb; exact ⟨_, rfl, h⟩
theorem my_dict_ne_declines {M : Unit} {prog : Program} {w : World} {A : Around} {E Q : Value → Shared → Prop} {s : Shared} {a b : Addr} (da : s.TypeIs (.ref a) "dict") (tb : s.TypeIs (.ref b) "list") (h : Q .notImplemented s) :
    wpAny (model prog w) A (call (.builtin "dict.__ne__") [.ref a, .ref b]) Q E s := by
  refine wpAny_call_entry PySem.F.slot_dict_ne da PySem.F.entry_dict_ne ?_ (PySem.F.args_dict_ne_2 _ _)
  show wpAny _ _ (Builtin.Dict.dictSlotArgs "__ne__" ⟨[.ref a, .ref b], []⟩ >>= _) _ _ s
  refine wpAny_bind ?_
  unfold Builtin.Dict.dictSlotArgs
  refine wpAny_bind (wpAny_notOrdered_dict da ?_)
  show wpAny _ _ (pure (Value.ref a, Value.ref b)) _ _ s
  refine wpAny_pure ?_
  refine wpAny_bind (wpAny_isInstance (T := "list") tb PySem.F.sub_list_dict ?_)
  simp only [Bool.not_false, if_true]
  exact wpAny_bind (wpAny_rule (wpAny_pure ⟨_, rfl, h⟩))
theorem RcNeAt.my_dict_list {A : Around} {s : Shared} {l b : Addr} {o : Obj} {items2 : Array Value} (ho : s.heap.get? l = some o) (oc : o.cls = .type "dict") (hb : s.heap.IsList b items2) (hu : A.units < cLine) : RcNeAt A s (.ref l) (.ref b) true := fun prog w E Q h => by
  obtain ⟨⟨cls2, dd2, data2, sl2⟩, ho2, hc2, n2, hd2⟩ := id hb
  simp only at hc2 hd2
  subst hc2 hd2
  have hne : l ≠ b := fun e => by subst e; rw [ho] at ho2; cases ho2; exact absurd oc (by simp)
  exact (rc_ne_decline_or (k := false) ⟨_, ho, oc⟩ ⟨_, ho2, rfl⟩ (by decide) F.sub_list_dict F.slot_dict_ne F.slot_list_ne_refl
    (fun _ hq => my_dict_ne_declines (M := ()) ⟨_, ho, oc⟩ ⟨_, ho2, rfl⟩ hq)
    (fun _ hq => call_meets F.slot_list_ne_refl ⟨_, ho2, rfl⟩ F.entry_list_ne (F.args_list_ne_2 _ _) (my_list_ne_declines_dict b l items2 n2 dd2 sl2 o oc) ⟨ho2, ho, hq⟩)
    (fun _ hq => wpAny_isSame_ref_other' hne ho ho2 (by simp) hq) (.inr hu) h)
end PySem.SeqAt
namespace My
open PySem PySem.Spec PyProof.Rows L2
def rNe0 (K : PySem.W.Frag) : R2 := fun x y H Q => ∃ b, y = .ref b ∧ SqL K H b [] ∧ ((∃ ty, Ty7 H x ty ∧ ty ≠ "list" ∧ Q (.bl true) H) ∨ ∃ a xs, x = .ref a ∧ SqL K H a xs ∧ Q (.bl (!xs.isEmpty)) H)
theorem op_ne0 {X : Cx} (hu : X.A.units + 64 < cLine) : OpR X (compareOp .NotEq) (rNe0 X.K) := by
  intro pins s σ H x y v u Q I rx ry h
  obtain ⟨b, rfl, hb, h⟩ := h
  cases (show u = Value.ref b from ry)
  obtain ⟨ws, r2, p2, _⟩ := I.list hb
  have h1 : X.A.units < cLine := by omega
  cases r2
  rcases h with ⟨ty, h7, n, q⟩ | ⟨a, xs, rfl, ha, q⟩
  · suffices hh : SeqAt.RcNeAt X.A s v (.ref b) true from hh _ _ _ _ ⟨.bl true, H, I, rfl, q⟩
    cases h7 with
    | non => cases (show v = Value.none from rx); exact (SeqAt.RcNeAt.none_list p2.isList h1)
    | bl t => cases (show v = Value.bool t from rx); exact (SeqAt.RcNeAt.bool_list t p2.isList h1)
    | int i => obtain ⟨tk, rfl⟩ := (show ∃ tk, v = Value.int i tk from rx); exact (SeqAt.RcNeAt.int_list i tk p2.isList h1)
    | str i => obtain ⟨tk, rfl⟩ := (show ∃ tk, v = Value.str i tk from rx); exact (SeqAt.RcNeAt.str_list i tk p2.isList h1)
    | lst g => exact absurd rfl n
    | @tup c zs g =>
      cases (show v = Value.ref c from rx)
      obtain ⟨us, r1, p1, _⟩ := I.tuple (sqT g)
      exact (SeqAt.RcNeAt.tuple_list p1 p2.isList h1)
    | @dK c kvs g =>
      cases (show v = Value.ref c from rx)
      obtain ⟨_, _, vs, _, d⟩ := I.hok _ _ g
      obtain ⟨o, ho, oc⟩ := d.typeIs
      exact (SeqAt.RcNeAt.my_dict_list ho oc p2.isList h1)
  · cases (show v = Value.ref a from rx)
    obtain ⟨us, r1, p1, _⟩ := I.list ha
    cases xs with
    | nil =>
      cases r1
      have k := SeqAt.RcNeAt.lists (e := fun _ => true) p1.isList p2.isList rfl h1 (fun j h1 h2 => absurd h1 (Nat.not_lt_zero j))
      exact k _ _ _ _ ⟨.bl false, H, I, rfl, q⟩
    | cons x xs =>
      cases r1 with
      | cons a1 b1 =>
        have k := SeqAt.RcNeAt.lists_lengths p1.isList p2.isList (by simp) h1
        exact k _ _ _ _ ⟨.bl true, H, I, rfl, q⟩
theorem op_ne0K {X : Cx} {K : PySem.W.Frag} (hu : X.A.units + 64 < cLine) (h : X.K = K) : OpR X (compareOp .NotEq) (rNe0 K) := by subst h; exact op_ne0 hu
end My

namespace My
open PySem PySem.Spec PyProof.Rows L2
def top (i : Nat) : Stmt := PySem.Challenge.pw_nestlaid_k02_what_cannot_be_dealt.main.body.getD i (.Pass ⟨0, 0, 0, 0⟩)
abbrev s_NoText_init : Stmt := inClass (top 3) 0
abbrev N_NoText_init : List Str := ["self", "why", "line"]
theorem sc_NoText_init : FnScope N_NoText_init ["self", "why", "line"] (defScope s_NoText_init) := ⟨rfl, rfl, rfl, by decide +kernel, rfl, by decide +kernel, by decide +kernel⟩
abbrev s_is_whole : Stmt := top 12
abbrev N_is_whole : List Str := ["thing"]
theorem sc_is_whole : FnScope N_is_whole ["thing"] (defScope s_is_whole) := ⟨rfl, rfl, rfl, by decide +kernel, rfl, by decide +kernel, by decide +kernel⟩
abbrev s_is_from_nought : Stmt := top 13
abbrev N_is_from_nought : List Str := ["thing"]
theorem sc_is_from_nought : FnScope N_is_from_nought ["thing"] (defScope s_is_from_nought) := ⟨rfl, rfl, rfl, by decide +kernel, rfl, by decide +kernel, by decide +kernel⟩
abbrev s_check_total : Stmt := top 14
abbrev N_check_total : List Str := ["total"]
theorem sc_check_total : FnScope N_check_total ["total"] (defScope s_check_total) := ⟨rfl, rfl, rfl, by decide +kernel, rfl, by decide +kernel, by decide +kernel⟩
abbrev s_check_weights : Stmt := top 15
abbrev N_check_weights : List Str := ["weights", "many", "one"]
theorem sc_check_weights : FnScope N_check_weights ["weights", "many"] (defScope s_check_weights) := ⟨rfl, rfl, rfl, by decide +kernel, rfl, by decide +kernel, by decide +kernel⟩
abbrev s_lowest : Stmt := top 16
abbrev N_lowest : List Str := ["top", "bottom", "one", "other"]
theorem sc_lowest : FnScope N_lowest ["top", "bottom"] (defScope s_lowest) := ⟨rfl, rfl, rfl, by decide +kernel, rfl, by decide +kernel, by decide +kernel⟩
abbrev s_running : Stmt := top 17
abbrev N_running : List Str := ["level", "weights", "chosen", "top", "bottom", "behind", "ahead", "found", "at"]
theorem sc_running : FnScope N_running ["level", "weights", "chosen"] (defScope s_running) := ⟨rfl, rfl, rfl, by decide +kernel, rfl, by decide +kernel, by decide +kernel⟩
abbrev s_dealt_parts : Stmt := top 18
abbrev N_dealt_parts : List Str := ["total", "caps", "weights", "at", "rest", "found", "whole", "full", "level", "got", "weight"]
theorem sc_dealt_parts : FnScope N_dealt_parts ["total", "caps", "weights"] (defScope s_dealt_parts) := ⟨rfl, rfl, rfl, by decide +kernel, rfl, by decide +kernel, by decide +kernel⟩
abbrev s_levelled_parts : Stmt := top 19
abbrev N_levelled_parts : List Str := ["total", "floors", "weights", "at", "rest", "found", "high", "whole", "level", "got", "weight", "floor"]
theorem sc_levelled_parts : FnScope N_levelled_parts ["total", "floors", "weights"] (defScope s_levelled_parts) := ⟨rfl, rfl, rfl, by decide +kernel, rfl, by decide +kernel, by decide +kernel⟩
abbrev s_dealt : Stmt := top 20
abbrev N_dealt : List Str := ["total", "caps", "weights", "cap"]
theorem sc_dealt : FnScope N_dealt ["total", "caps", "weights"] (defScope s_dealt) := ⟨rfl, rfl, rfl, by decide +kernel, rfl, by decide +kernel, by decide +kernel⟩
abbrev s_levelled : Stmt := top 21
abbrev N_levelled : List Str := ["total", "floors", "weights"]
theorem sc_levelled : FnScope N_levelled ["total", "floors", "weights"] (defScope s_levelled) := ⟨rfl, rfl, rfl, by decide +kernel, rfl, by decide +kernel, by decide +kernel⟩
abbrev s_w_cell_at : Stmt := top 23
abbrev N_w_cell_at : List Str := ["_law_script", "_law_k"]
theorem sc_w_cell_at : FnScope N_w_cell_at ["_law_script", "_law_k"] (defScope s_w_cell_at) := ⟨rfl, rfl, rfl, by decide +kernel, rfl, by decide +kernel, by decide +kernel⟩
abbrev s_w_mixed : Stmt := top 24
abbrev N_w_mixed : List Str := ["_law_cell", "_law_k", "_law_low"]
theorem sc_w_mixed : FnScope N_w_mixed ["_law_cell", "_law_k"] (defScope s_w_mixed) := ⟨rfl, rfl, rfl, by decide +kernel, rfl, by decide +kernel, by decide +kernel⟩
abbrev s_w_source : Stmt := top 25
abbrev N_w_source : List Str := ["_law_cell"]
theorem sc_w_source : FnScope N_w_source ["_law_cell"] (defScope s_w_source) := ⟨rfl, rfl, rfl, by decide +kernel, rfl, by decide +kernel, by decide +kernel⟩
abbrev s_w_next : Stmt := top 26
abbrev N_w_next : List Str := ["_law_source_here", "_law_many", "_law_found"]
theorem sc_w_next : FnScope N_w_next ["_law_source_here", "_law_many"] (defScope s_w_next) := ⟨rfl, rfl, rfl, by decide +kernel, rfl, by decide +kernel, by decide +kernel⟩
abbrev s_w_deal : Stmt := top 27
abbrev N_w_deal : List Str := ["_law_kind", "_law_total", "_law_bounds", "_law_weights"]
theorem sc_w_deal : FnScope N_w_deal ["_law_kind", "_law_total", "_law_bounds", "_law_weights"] (defScope s_w_deal) := ⟨rfl, rfl, rfl, by decide +kernel, rfl, by decide +kernel, by decide +kernel⟩
abbrev s_w_numbers : Stmt := top 28
abbrev N_w_numbers : List Str := ["_law_source_here", "_law_many", "_law_far", "_law_k"]
theorem sc_w_numbers : FnScope N_w_numbers ["_law_source_here", "_law_many"] (defScope s_w_numbers) := ⟨rfl, rfl, rfl, by decide +kernel, rfl, by decide +kernel, by decide +kernel⟩
abbrev s_w_no_number : Stmt := top 29
abbrev N_w_no_number : List Str := ["_law_source_here", "_law_kind", "_law_some"]
theorem sc_w_no_number : FnScope N_w_no_number ["_law_source_here", "_law_kind"] (defScope s_w_no_number) := ⟨rfl, rfl, rfl, by decide +kernel, rfl, by decide +kernel, by decide +kernel⟩
abbrev s_w_no_list : Stmt := top 30
abbrev N_w_no_list : List Str := ["_law_source_here", "_law_row"]
theorem sc_w_no_list : FnScope N_w_no_list ["_law_source_here", "_law_row"] (defScope s_w_no_list) := ⟨rfl, rfl, rfl, by decide +kernel, rfl, by decide +kernel, by decide +kernel⟩
abbrev s_w_spoilt : Stmt := top 31
abbrev N_w_spoilt : List Str := ["_law_source_here", "_law_kind", "_law_handed", "_law_way", "_law_total", "_law_bounds", "_law_weights"]
theorem sc_w_spoilt : FnScope N_w_spoilt ["_law_source_here", "_law_kind", "_law_handed", "_law_way"] (defScope s_w_spoilt) := ⟨rfl, rfl, rfl, by decide +kernel, rfl, by decide +kernel, by decide +kernel⟩
abbrev s_w_copy : Stmt := top 32
abbrev N_w_copy : List Str := ["_law_thing"]
theorem sc_w_copy : FnScope N_w_copy ["_law_thing"] (defScope s_w_copy) := ⟨rfl, rfl, rfl, by decide +kernel, rfl, by decide +kernel, by decide +kernel⟩
abbrev s_w_refused : Stmt := top 33
abbrev N_w_refused : List Str := ["_law_kind", "_law_handed", "e", "_law_kinds"]
theorem sc_w_refused : FnScope N_w_refused ["_law_kind", "_law_handed"] (defScope s_w_refused) := ⟨rfl, rfl, rfl, by decide +kernel, rfl, by decide +kernel, by decide +kernel⟩
abbrev s_w_told : Stmt := top 34
abbrev N_w_told : List Str := ["_law_kind", "_law_total", "_law_bounds", "_law_weights", "_law_found"]
theorem sc_w_told : FnScope N_w_told ["_law_kind", "_law_total", "_law_bounds", "_law_weights"] (defScope s_w_told) := ⟨rfl, rfl, rfl, by decide +kernel, rfl, by decide +kernel, by decide +kernel⟩
abbrev s_law : Stmt := top 35
abbrev N_law : List Str := ["_law_script", "_law_cell", "_law_source_here", "_law_kind", "_law_ways", "_law_many", "_law_total", "_law_bounds", "_law_weights", "_law_handed", "_law_way", "_law_kept", "_law_thing"]
theorem sc_law : FnScope N_law ["_law_script"] (defScope s_law) := ⟨rfl, rfl, rfl, by decide +kernel, rfl, by decide +kernel, by decide +kernel⟩
structure Tx (K : PySem.W.Frag) (mg : Str → Option Value) where
  d_is_whole : Df K mg "is_whole" s_is_whole ["thing"]
  d_is_from_nought : Df K mg "is_from_nought" s_is_from_nought ["thing"]
  d_check_total : Df K mg "check_total" s_check_total ["total"]
  d_check_weights : Df K mg "check_weights" s_check_weights ["weights", "many"]
  d_lowest : Df K mg "lowest" s_lowest ["top", "bottom"]
  d_running : Df K mg "running" s_running ["level", "weights", "chosen"]
  d_dealt_parts : Df K mg "dealt_parts" s_dealt_parts ["total", "caps", "weights"]
  d_levelled_parts : Df K mg "levelled_parts" s_levelled_parts ["total", "floors", "weights"]
  d_dealt : Df K mg "dealt" s_dealt ["total", "caps", "weights"]
  d_levelled : Df K mg "levelled" s_levelled ["total", "floors", "weights"]
  d_w_cell_at : Df K mg "_law_cell_at" s_w_cell_at ["_law_script", "_law_k"]
  d_w_mixed : Df K mg "_law_mixed" s_w_mixed ["_law_cell", "_law_k"]
  d_w_source : Df K mg "_law_source" s_w_source ["_law_cell"]
  d_w_next : Df K mg "_law_next" s_w_next ["_law_source_here", "_law_many"]
  d_w_deal : Df K mg "_law_deal" s_w_deal ["_law_kind", "_law_total", "_law_bounds", "_law_weights"]
  d_w_numbers : Df K mg "_law_numbers" s_w_numbers ["_law_source_here", "_law_many"]
  d_w_no_number : Df K mg "_law_no_number" s_w_no_number ["_law_source_here", "_law_kind"]
  d_w_no_list : Df K mg "_law_no_list" s_w_no_list ["_law_source_here", "_law_row"]
  d_w_spoilt : Df K mg "_law_spoilt" s_w_spoilt ["_law_source_here", "_law_kind", "_law_handed", "_law_way"]
  d_w_copy : Df K mg "_law_copy" s_w_copy ["_law_thing"]
  d_w_refused : Df K mg "_law_refused" s_w_refused ["_law_kind", "_law_handed"]
  d_w_told : Df K mg "_law_told" s_w_told ["_law_kind", "_law_total", "_law_bounds", "_law_weights"]
  d_law : Df K mg "law" s_law ["_law_script"]
  b_ValueError : mg "ValueError" = none
  b_all : mg "all" = none
  b_bool : mg "bool" = none
  b_enumerate : mg "enumerate" = none
  b_int : mg "int" = none
  b_isinstance : mg "isinstance" = none
  b_len : mg "len" = none
  b_list : mg "list" = none
  b_range : mg "range" = none
  b_sum : mg "sum" = none
  b_tuple : mg "tuple" = none
  b_zip : mg "zip" = none
  e_NestError : Ex K mg "NestError"
  e_NoNumber : Ex K mg "NoNumber"
  r_NoNumber : PySem.W.subIn K (.ref e_NoNumber.C) (.ref e_NestError.C) = some true
  s_NoNumber : PySem.W.subIn K (.ref e_NoNumber.C) (.ref e_NoNumber.C) = some true
  v_NoNumber : PySem.W.subIn K (.ref e_NoNumber.C) (.type "ValueError") = some true
  e_NoText : Ec K mg "NoText"
  i_NoText : PySem.W.subIn K (.ref e_NoNumber.C) (.ref e_NoText.C) = some false
  e_NoName : Ec K mg "NoName"
  i_NoName : PySem.W.subIn K (.ref e_NoNumber.C) (.ref e_NoName.C) = some false
  e_NoStyle : Ec K mg "NoStyle"
  i_NoStyle : PySem.W.subIn K (.ref e_NoNumber.C) (.ref e_NoStyle.C) = some false
  e_NoTrack : Ec K mg "NoTrack"
  i_NoTrack : PySem.W.subIn K (.ref e_NoNumber.C) (.ref e_NoTrack.C) = some false
  e_NoAsk : Ec K mg "NoAsk"
  i_NoAsk : PySem.W.subIn K (.ref e_NoNumber.C) (.ref e_NoAsk.C) = some false
  e_NoTree : Ec K mg "NoTree"
  i_NoTree : PySem.W.subIn K (.ref e_NoNumber.C) (.ref e_NoTree.C) = some false
  e_NoPlace : Ec K mg "NoPlace"
  i_NoPlace : PySem.W.subIn K (.ref e_NoNumber.C) (.ref e_NoPlace.C) = some false
  e_NoBox : Ec K mg "NoBox"
  i_NoBox : PySem.W.subIn K (.ref e_NoNumber.C) (.ref e_NoBox.C) = some false
end My
/-! ### totals dealt by caps and weights: plain mathematics -/
namespace My
open PySem L2
/-- the sum of f over some places -/
def S (f : Nat → Int) (R : List Nat) : Int := (R.map f).sum
theorem S_nil (f : Nat → Int) : S f [] = 0 := rfl
theorem S_cons (f : Nat → Int) (i : Nat) (R : List Nat) : S f (i :: R) = f i + S f R := by unfold S; rw [List.map_cons, List.sum_cons]
theorem S_append (f : Nat → Int) (R T : List Nat) : S f (R ++ T) = S f R + S f T := by unfold S; rw [List.map_append, List.sum_append]
theorem S_nonneg {f : Nat → Int} : ∀ {R : List Nat}, (∀ i ∈ R, 0 ≤ f i) → 0 ≤ S f R
  | [], _ => Int.le_refl 0
  | i :: R, h => by
    rw [S_cons]
    have h1 := h i (List.mem_cons_self ..)
    have h2 := S_nonneg (R := R) fun j hj => h j (List.mem_cons_of_mem _ hj)
    omega
theorem S_le {f g : Nat → Int} : ∀ {R : List Nat}, (∀ i ∈ R, f i ≤ g i) → S f R ≤ S g R
  | [], _ => Int.le_refl 0
  | i :: R, h => by
    rw [S_cons, S_cons]
    have h1 := h i (List.mem_cons_self ..)
    have h2 := S_le (R := R) fun j hj => h j (List.mem_cons_of_mem _ hj)
    omega
theorem S_lt {f g : Nat → Int} : ∀ {R : List Nat}, (∀ i ∈ R, f i < g i) → R ≠ [] → S f R < S g R
  | [], _, h => absurd rfl h
  | i :: R, h, _ => by
    rw [S_cons, S_cons]
    have h1 := h i (List.mem_cons_self ..)
    have h2 := S_le (R := R) fun j hj => Int.le_of_lt (h j (List.mem_cons_of_mem _ hj))
    omega
theorem S_congr {f g : Nat → Int} : ∀ {R : List Nat}, (∀ i ∈ R, f i = g i) → S f R = S g R
  | [], _ => rfl
  | i :: R, h => by
    rw [S_cons, S_cons, h i (List.mem_cons_self ..), S_congr (R := R) fun j hj => h j (List.mem_cons_of_mem _ hj)]
theorem S_mul (c : Int) (f : Nat → Int) : ∀ R : List Nat, S (fun i => c * f i) R = c * S f R
  | [] => (Int.mul_zero c).symm
  | i :: R => by rw [S_cons, S_cons, S_mul c f R, Int.mul_add]
theorem S_mul_r (c : Int) (f : Nat → Int) : ∀ R : List Nat, S (fun i => f i * c) R = S f R * c
  | [] => (Int.zero_mul c).symm
  | i :: R => by rw [S_cons, S_cons, S_mul_r c f R, Int.add_mul]
theorem S_split (f : Nat → Int) (p : Nat → Bool) : ∀ R : List Nat, S f R = S f (R.filter p) + S f (R.filter fun i => !p i)
  | [] => rfl
  | i :: R => by
    rw [S_cons, S_split f p R, List.filter_cons, List.filter_cons]
    cases h : p i with
    | true => simp only [Bool.not_true, if_true, Bool.false_eq_true, if_false]; rw [S_cons]; omega
    | false => simp only [Bool.not_false, if_true, Bool.false_eq_true, if_false]; rw [S_cons]; omega
theorem S_bound {f : Nat → Int} {c : Int} : ∀ {R : List Nat}, (∀ i ∈ R, f i ≤ c) → S f R ≤ c * R.length
  | [], _ => by simp [S_nil]
  | i :: R, h => by
    rw [S_cons, List.length_cons]
    have h1 := h i (List.mem_cons_self ..)
    have h2 := S_bound (R := R) fun j hj => h j (List.mem_cons_of_mem _ hj)
    have e : c * ((R.length + 1 : Nat) : Int) = c * R.length + c := by rw [Int.natCast_add, Int.mul_add]; simp
    omega
abbrev natsV (ch : List Nat) : List V := ch.map fun i : Nat => V.int (i : Int)
def wAt (ws : List Int) (i : Nat) : Int := ws.getD i 0
/-! #### the level -/
/-- what the removed ones keep: cap ≤ level times weight, while the level T / W only rises -/
theorem rise {T W C V : Int} (hW : 0 < W) (hC : C * W ≤ T * V) : T * (W - V) ≤ (T - C) * W := by
  rw [Int.mul_sub, Int.sub_mul]; omega
theorem keep_cap {c w T W T' W' : Int} (hW : 0 < W) (hw : 0 ≤ w) (hW' : 0 ≤ W') (h : c * W ≤ T * w) (hr : T * W' ≤ T' * W) : c * W' ≤ T' * w := by
  have h1 : c * W * W' ≤ T * w * W' := Int.mul_le_mul_of_nonneg_right h hW'
  have h2 : T * W' * w ≤ T' * W * w := Int.mul_le_mul_of_nonneg_right hr hw
  have e1 : c * W * W' = c * W' * W := by rw [Int.mul_assoc, Int.mul_comm W W', ← Int.mul_assoc]
  have e2 : T * w * W' = T * W' * w := by rw [Int.mul_assoc, Int.mul_comm w W', ← Int.mul_assoc]
  have e3 : T' * W * w = T' * w * W := by rw [Int.mul_assoc, Int.mul_comm W w, ← Int.mul_assoc]
  exact Int.le_of_mul_le_mul_right (by rw [← e1, ← e3]; omega) hW
/-- behind the rest: what is weighed so far -/
def pre (w : Nat → Int) (p : Nat → Bool) : Nat → Int
  | 0 => 0
  | i + 1 => pre w p i + if p i then w i else 0
/-- what one gets by running sums -/
def part (t b beh w : Int) : Int := t * (beh + w) / b - t * beh / b
/-- the pairs that running tells -/
def runD (t b : Int) (w : Nat → Int) : List Nat → Int → List (Nat × Int)
  | [], _ => []
  | i :: r, beh => (i, part t b beh (w i)) :: runD t b w r (beh + w i)
theorem runD_append (t b : Int) (w : Nat → Int) (i : Nat) : ∀ (l : List Nat) (beh : Int), runD t b w (l ++ [i]) beh = runD t b w l beh ++ [(i, part t b (beh + S w l) (w i))]
  | [], beh => by simp [runD, S_nil]
  | j :: l, beh => by
    rw [List.cons_append]
    simp only [runD]
    rw [runD_append t b w i l (beh + w j), S_cons, Int.add_assoc, List.cons_append]
theorem runD_fst (t b : Int) (w : Nat → Int) : ∀ (l : List Nat) (beh : Int), (runD t b w l beh).map (·.1) = l
  | [], _ => rfl
  | i :: l, beh => by simp only [runD, List.map_cons]; rw [runD_fst t b w l]
theorem pre_eq (w : Nat → Int) (p : Nat → Bool) : ∀ n, pre w p n = S w ((List.range n).filter p)
  | 0 => rfl
  | n + 1 => by
    rw [List.range_succ, List.filter_append, S_append, ← pre_eq w p n]
    simp only [pre, List.filter_cons, List.filter_nil]
    cases p n <;> simp [S_cons, S_nil]
theorem runD_range (t b : Int) (w : Nat → Int) (p : Nat → Bool) : ∀ n, ∀ q ∈ runD t b w ((List.range n).filter p) 0, p q.1 = true ∧ q.1 < n ∧ q.2 = part t b (pre w p q.1) (w q.1)
  | 0, q, h => by simp [runD] at h
  | n + 1, q, h => by
    rw [List.range_succ, List.filter_append] at h
    cases hp : p n with
    | false =>
      rw [List.filter_cons, hp] at h
      simp only [Bool.false_eq_true, if_false, List.filter_nil, List.append_nil] at h
      obtain ⟨h1, h2, h3⟩ := runD_range t b w p n q h
      exact ⟨h1, by omega, h3⟩
    | true =>
      rw [List.filter_cons, hp] at h
      simp only [if_true, List.filter_nil] at h
      rw [runD_append] at h
      rcases List.mem_append.mp h with h | h
      · obtain ⟨h1, h2, h3⟩ := runD_range t b w p n q h
        exact ⟨h1, by omega, h3⟩
      · simp only [List.mem_singleton] at h
        subst h
        exact ⟨hp, by simp, by simp [pre_eq]⟩
/-- found, set by pairs -/
def putAll (f : List Int) (ps : List (Nat × Int)) : List Int := ps.foldl (fun f q => f.set q.1 q.2) f
theorem putAll_len : ∀ (ps : List (Nat × Int)) (f : List Int), (putAll f ps).length = f.length
  | [], _ => rfl
  | q :: ps, f => by
    show (putAll (f.set q.1 q.2) ps).length = _
    rw [putAll_len ps, List.length_set]
theorem putAll_out {i : Nat} : ∀ (ps : List (Nat × Int)) (f : List Int), i ∉ ps.map (·.1) → (putAll f ps)[i]? = f[i]?
  | [], _, _ => rfl
  | q :: ps, f, h => by
    show (putAll (f.set q.1 q.2) ps)[i]? = _
    rw [List.map_cons, List.mem_cons, not_or] at h
    rw [putAll_out ps _ h.2, List.getElem?_set_ne (fun e => h.1 e.symm)]
theorem putAll_in {g : Nat → Int} {i : Nat} : ∀ (ps : List (Nat × Int)) (f : List Int), (∀ q ∈ ps, q.2 = g q.1) → i ∈ ps.map (·.1) → i < f.length → (putAll f ps)[i]? = some (g i)
  | [], _, _, h, _ => by simp at h
  | q :: ps, f, hg, h, hl => by
    show (putAll (f.set q.1 q.2) ps)[i]? = _
    by_cases hm : i ∈ ps.map (·.1)
    · exact putAll_in ps _ (fun r hr => hg r (List.mem_cons_of_mem _ hr)) hm (by rw [List.length_set]; exact hl)
    · rw [putAll_out ps _ hm]
      rw [List.map_cons, List.mem_cons] at h
      rcases h with e | h
      · subst e
        rw [List.getElem?_set_self hl, hg q (List.mem_cons_self ..)]
      · exact absurd h hm
/-! #### the spec, and the loop -/
def capN (cap : Nat → Option Int) (i : Nat) : Int := (cap i).getD 0
/-- who has weight -/
def wtd (n : Nat) (w : Nat → Int) : List Nat := (List.range n).filter fun i => decide (0 < w i)
/-- the cap is no more than level times weight -/
def heldB (t b : Int) (w : Nat → Int) (cap : Nat → Option Int) (i : Nat) : Bool := match cap i with
  | some c => decide (c * b ≤ t * w i)
  | none => false
/-- who is dealt to by the level -/
def restB (t b : Int) (w : Nat → Int) (cap : Nat → Option Int) (i : Nat) : Bool := decide (0 < w i) && !heldB t b w cap i
def less (c : Option Int) (b x : Int) : Int := match c with
  | some c => min (c * b) x
  | none => x
structure Dealt (n : Nat) (w : Nat → Int) (cap : Nat → Option Int) (total : Int) (lv : Option (Int × Int)) (fs : List Int) : Prop where
  len : fs.length = n
  zero : ∀ i, i < n → w i ≤ 0 → fs[i]? = some 0
  non : lv = none → (∀ i, i < n → 0 < w i → ∃ c, cap i = some c ∧ fs[i]? = some c) ∧ S (capN cap) (wtd n w) ≤ total
  lev : ∀ t b, lv = some (t, b) → 0 ≤ t ∧ 0 < b ∧ Int.gcd t b = 1 ∧ ¬ ((∀ i, i < n → 0 < w i → (cap i).isSome = true) ∧ S (capN cap) (wtd n w) ≤ total) ∧
    S (fun i => less (cap i) b (t * w i)) (wtd n w) = total * b ∧
    ∀ i, i < n → 0 < w i → fs[i]? = some (if heldB t b w cap i then capN cap i else part t b (pre w (restB t b w cap) i) (w i))
/-- between two turns: who is left (p), what is left (T) -/
structure DI (n : Nat) (w : Nat → Int) (cap : Nat → Option Int) (total : Int) (p : Nat → Bool) (T : Int) (f : List Int) : Prop where
  len : f.length = n
  pw : ∀ i, i < n → p i = true → 0 < w i
  tn : 0 ≤ T
  out : ∀ i, i < n → 0 < w i → p i = false → ∃ c, cap i = some c ∧ f[i]? = some c ∧ c * S w ((List.range n).filter p) ≤ T * w i
  yet : ∀ i, i < n → (p i = true ∨ w i ≤ 0) → f[i]? = some 0
  sum : T + S (capN cap) ((List.range n).filter fun i => decide (0 < w i) && !p i) = total
section
variable {n : Nat} {w : Nat → Int} {cap : Nat → Option Int} {total T : Int} {p : Nat → Bool} {f : List Int}
theorem filter_congr' {q r : Nat → Bool} {l : List Nat} (h : ∀ i ∈ l, q i = r i) : l.filter q = l.filter r := List.filter_congr h
theorem DI.start (h0 : 0 ≤ total) : DI n w cap total (fun i => decide (0 < w i)) total (List.replicate n 0) := by
  refine ⟨List.length_replicate, fun i _ h => of_decide_eq_true h, h0, fun i _ h1 h2 => absurd h1 (of_decide_eq_false h2), fun i hi _ => by rw [List.getElem?_replicate, if_pos hi], ?_⟩
  have e : ((List.range n).filter fun i => decide (0 < w i) && !decide (0 < w i)) = [] := by
    rw [List.filter_eq_nil_iff]
    intro i _
    cases decide (0 < w i) <;> simp
  rw [e, S_nil]; omega
/-- nobody is left -/
theorem DI.fin0 (d : DI n w cap total p T f) (he : (List.range n).filter p = []) : Dealt n w cap total none f := by
  have hp : ∀ i, i < n → p i = false := fun i hi => by
    have := List.filter_eq_nil_iff.mp he i (List.mem_range.mpr hi)
    simpa using this
  refine ⟨d.len, fun i hi h => d.yet i hi (.inr h), fun _ => ⟨fun i hi h => ?_, ?_⟩, fun t b h => by cases h⟩
  · obtain ⟨c, h1, h2, _⟩ := d.out i hi h (hp i hi)
    exact ⟨c, h1, h2⟩
  · have e : wtd n w = ((List.range n).filter fun i => decide (0 < w i) && !p i) := filter_congr' fun i hi => by
      rw [hp i (List.mem_range.mp hi)]; simp
    rw [e]
    have := d.sum
    have := d.tn
    omega
/-- who has no more than level times weight as a cap -/
def fullB (T W : Int) (w : Nat → Int) (cap : Nat → Option Int) (i : Nat) : Bool := heldB T W w cap i
theorem S_pos {R : List Nat} (h : ∀ i ∈ R, 0 < w i) (hne : R ≠ []) : 0 < S w R := by
  have := S_lt (f := fun _ => 0) (g := w) h hne
  have e : S (fun _ => 0) R = 0 := by
    have : ∀ R : List Nat, S (fun _ => 0) R = 0 := fun R => by
      induction R with
      | nil => rfl
      | cons i R ih => rw [S_cons, ih]; rfl
    exact this R
  omega
theorem heldB_some {t b : Int} {i : Nat} (h : heldB t b w cap i = true) : ∃ c, cap i = some c ∧ c * b ≤ t * w i := by
  unfold heldB at h
  cases e : cap i with
  | none => rw [e] at h; cases h
  | some c => rw [e] at h; exact ⟨c, rfl, of_decide_eq_true h⟩
theorem heldB_iff {t b c : Int} {i : Nat} (e : cap i = some c) : heldB t b w cap i = decide (c * b ≤ t * w i) := by
  unfold heldB
  rw [e]
theorem filter_and (q r : Nat → Bool) (l : List Nat) : (l.filter q).filter r = l.filter fun i => q i && r i := by
  rw [List.filter_filter]
  exact List.filter_congr fun i _ => by rw [Bool.and_comm]
/-- one turn -/
theorem DI.turn (d : DI n w cap total p T f) (W : Int) (hW : W = S w ((List.range n).filter p)) (hne : (List.range n).filter p ≠ []) (full : List Nat) (hfull : full = ((List.range n).filter p).filter (heldB T W w cap)) :
    DI n w cap total (fun i => p i && !heldB T W w cap i) (T - S (capN cap) full) (putAll f (full.map fun i => (i, capN cap i))) := by
  have hpos : ∀ i ∈ (List.range n).filter p, 0 < w i := fun i hi => by
    obtain ⟨h1, h2⟩ := List.mem_filter.mp hi
    exact d.pw i (List.mem_range.mp h1) h2
  have W0 : 0 < W := by rw [hW]; exact S_pos hpos hne
  have mfull : ∀ i, i ∈ full ↔ (i < n ∧ p i = true) ∧ heldB T W w cap i = true := fun i => by
    rw [hfull, List.mem_filter, List.mem_filter, List.mem_range]
  -- C * W ≤ T * V
  have hC : S (capN cap) full * W ≤ T * S w full := by
    rw [← S_mul_r, ← S_mul]
    refine S_le fun i hi => ?_
    obtain ⟨c, e, h⟩ := heldB_some ((mfull i).mp hi).2
    show (cap i).getD 0 * W ≤ T * w i
    rw [e]; exact h
  have hsp : W = S w full + S w ((List.range n).filter fun i => p i && !heldB T W w cap i) := by
    have e := S_split w (heldB T W w cap) ((List.range n).filter p)
    rw [← hfull, filter_and, ← hW] at e
    exact e
  have V0 : S w full ≤ W := by
    have : 0 ≤ S w ((List.range n).filter fun i => p i && !heldB T W w cap i) := S_nonneg fun i hi => by
      obtain ⟨h1, h2⟩ := List.mem_filter.mp hi
      have := d.pw i (List.mem_range.mp h1) (Bool.and_eq_true_iff.mp h2).1
      omega
    omega
  have T0 : 0 ≤ T - S (capN cap) full := by
    have h1 : T * S w full ≤ T * W := Int.mul_le_mul_of_nonneg_left V0 d.tn
    have h2 : S (capN cap) full * W ≤ T * W := Int.le_trans hC h1
    have := Int.le_of_mul_le_mul_right h2 W0
    omega
  have hr := rise W0 hC
  have eW' : W - S w full = S w ((List.range n).filter fun i => p i && !heldB T W w cap i) := by omega
  rw [eW'] at hr
  have W'0 : 0 ≤ S w ((List.range n).filter fun i => p i && !heldB T W w cap i) := by omega
  have fst : (full.map fun i => (i, capN cap i)).map (·.1) = full := by rw [List.map_map]; exact List.map_id'' (fun _ => rfl) _
  refine ⟨by rw [putAll_len]; exact d.len, fun i hi h => d.pw i hi (Bool.and_eq_true_iff.mp h).1, T0, fun i hi hw hp' => ?_, fun i hi h => ?_, ?_⟩
  · cases hp : p i with
    | false =>
      obtain ⟨c, h1, h2, h3⟩ := d.out i hi hw hp
      refine ⟨c, h1, ?_, ?_⟩
      · rw [putAll_out _ _ (by rw [fst]; intro hm; have := ((mfull i).mp hm).1.2; rw [hp] at this; cases this)]
        exact h2
      · rw [← hW] at h3
        exact keep_cap W0 (Int.le_of_lt hw) W'0 h3 hr
    | true =>
      have hh : heldB T W w cap i = true := by rw [hp] at hp'; simpa using hp'
      obtain ⟨c, e, h⟩ := heldB_some hh
      refine ⟨c, e, ?_, keep_cap W0 (Int.le_of_lt hw) W'0 h hr⟩
      have := putAll_in (g := capN cap) (i := i) (full.map fun i => (i, capN cap i)) f (fun q hq => by
        obtain ⟨j, _, e⟩ := List.mem_map.mp hq
        rw [← e]) (by rw [fst]; exact (mfull i).mpr ⟨⟨hi, hp⟩, hh⟩) (by rw [d.len]; exact hi)
      rw [this]
      show some ((cap i).getD 0) = some c
      rw [e]; rfl
  · have hn : i ∉ full := fun hm => by
      obtain ⟨⟨_, h1⟩, h2⟩ := (mfull i).mp hm
      rcases h with h | h
      · rw [h1, h2] at h; cases h
      · have := d.pw i hi h1; omega
    rw [putAll_out _ _ (by rw [fst]; exact hn)]
    refine d.yet i hi ?_
    rcases h with h | h
    · exact .inl (Bool.and_eq_true_iff.mp h).1
    · exact .inr h
  · have e1 : S (capN cap) ((List.range n).filter fun i => decide (0 < w i) && !(p i && !heldB T W w cap i)) = S (capN cap) full + S (capN cap) ((List.range n).filter fun i => decide (0 < w i) && !p i) := by
      have e := S_split (capN cap) p ((List.range n).filter fun i => decide (0 < w i) && !(p i && !heldB T W w cap i))
      rw [filter_and, filter_and] at e
      rw [e]
      congr 1
      · congr 1
        rw [hfull, filter_and]
        refine filter_congr' fun i hi => ?_
        have := d.pw i (List.mem_range.mp hi)
        cases hp : p i with
        | false => simp
        | true =>
          rw [decide_eq_true (this hp)]
          cases heldB T W w cap i <;> rfl
      · congr 1
        refine filter_congr' fun i _ => ?_
        cases p i <;> simp
    rw [e1]
    have := d.sum
    omega
/-- nobody is held any more: the level -/
theorem DI.fin1 (d : DI n w cap total p T f) (W : Int) (hW : W = S w ((List.range n).filter p)) (hne : (List.range n).filter p ≠ []) (hfull : ((List.range n).filter p).filter (heldB T W w cap) = []) {t b g : Int}
    (eT : T = t * g) (eW : W = b * g) (hg : 0 < g) (hgcd : Int.gcd t b = 1) :
    Dealt n w cap total (some (t, b)) (putAll f (runD t b w ((List.range n).filter p) 0)) := by
  have hpos : ∀ i ∈ (List.range n).filter p, 0 < w i := fun i hi => by
    obtain ⟨h1, h2⟩ := List.mem_filter.mp hi
    exact d.pw i (List.mem_range.mp h1) h2
  have W0 : 0 < W := by rw [hW]; exact S_pos hpos hne
  have b0 : 0 < b := Int.pos_of_mul_pos_right (by rw [Int.mul_comm] at eW; rw [← eW]; exact W0) hg
  have t0 : 0 ≤ t := by
    by_cases h : 0 ≤ t
    · exact h
    · have : t * g < 0 := Int.mul_neg_of_neg_of_pos (by omega) hg
      have := d.tn
      omega
  have cmp : ∀ c i, (c * W ≤ T * w i ↔ c * b ≤ t * w i) := fun c i => by
    have e1 : c * W = c * b * g := by rw [eW, Int.mul_assoc]
    have e2 : T * w i = t * w i * g := by rw [eT, Int.mul_assoc, Int.mul_comm g, ← Int.mul_assoc]
    rw [e1, e2]
    exact ⟨fun h => Int.le_of_mul_le_mul_right h hg, fun h => Int.mul_le_mul_of_nonneg_right h (Int.le_of_lt hg)⟩
  have hheld : ∀ i, heldB t b w cap i = heldB T W w cap i := fun i => by
    unfold heldB
    cases cap i with
    | none => rfl
    | some c => exact decide_eq_decide.mpr (cmp c i).symm
  have hrest : ∀ i, i < n → restB t b w cap i = p i := fun i hi => by
    unfold restB
    rw [hheld]
    cases hp : p i with
    | true =>
      have hw := d.pw i hi hp
      have hm : i ∈ (List.range n).filter p := List.mem_filter.mpr ⟨List.mem_range.mpr hi, hp⟩
      have hh := List.filter_eq_nil_iff.mp hfull i hm
      rw [decide_eq_true hw]
      simpa using hh
    | false =>
      by_cases hw : 0 < w i
      · obtain ⟨c, e, _, h⟩ := d.out i hi hw hp
        rw [← hW] at h
        rw [heldB_iff e, decide_eq_true h]
        simp
      · rw [decide_eq_false hw]; rfl
  have epre : ∀ i, i ≤ n → pre w (restB t b w cap) i = pre w p i := by
    intro i hi
    rw [pre_eq, pre_eq]
    congr 1
    exact filter_congr' fun j hj => hrest j (by have := List.mem_range.mp hj; omega)
  have hrun := runD_range t b w p n
  have fst : (runD t b w ((List.range n).filter p) 0).map (·.1) = (List.range n).filter p := runD_fst ..
  have hin : ∀ i, i < n → p i = true → (putAll f (runD t b w ((List.range n).filter p) 0))[i]? = some (part t b (pre w p i) (w i)) := fun i hi hp =>
    putAll_in (g := fun i => part t b (pre w p i) (w i)) _ f (fun q hq => (hrun q hq).2.2) (by rw [fst]; exact List.mem_filter.mpr ⟨List.mem_range.mpr hi, hp⟩) (by rw [d.len]; exact hi)
  have hout : ∀ i, i < n → p i = false → (putAll f (runD t b w ((List.range n).filter p) 0))[i]? = f[i]? := fun i hi hp =>
    putAll_out _ f (by rw [fst]; intro hm; have := (List.mem_filter.mp hm).2; rw [hp] at this; cases this)
  -- those who have weight: the removed and the rest
  have hsplit : ∀ g : Nat → Int, S g (wtd n w) = S g ((List.range n).filter p) + S g ((List.range n).filter fun i => decide (0 < w i) && !p i) := fun g => by
    have e := S_split g p (wtd n w)
    unfold wtd at e
    rw [filter_and, filter_and] at e
    unfold wtd
    rw [e]
    congr 1
    congr 1
    refine filter_congr' fun i hi => ?_
    cases hp : p i with
    | false => simp
    | true => rw [decide_eq_true (d.pw i (List.mem_range.mp hi) hp)]; rfl
  have outs : ∀ i ∈ (List.range n).filter fun i => decide (0 < w i) && !p i, ∃ c, cap i = some c ∧ c * b ≤ t * w i := fun i hi => by
    obtain ⟨h1, h2⟩ := List.mem_filter.mp hi
    rw [Bool.and_eq_true] at h2
    obtain ⟨c, e, _, h⟩ := d.out i (List.mem_range.mp h1) (of_decide_eq_true h2.1) (by simpa using h2.2)
    rw [← hW] at h
    exact ⟨c, e, (cmp c i).mp h⟩
  have ins : ∀ i ∈ (List.range n).filter p, ∀ c, cap i = some c → t * w i < c * b := fun i hi c e => by
    have hh := List.filter_eq_nil_iff.mp hfull i hi
    rw [heldB_iff e] at hh
    have h3 : ¬ c * b ≤ t * w i := fun z => hh (decide_eq_true ((cmp c i).mpr z))
    omega
  refine ⟨by rw [putAll_len]; exact d.len, fun i hi h => ?_, (fun h => by cases h), fun t' b' h => ?_⟩
  · have hp : p i = false := by
      cases hp : p i with
      | false => rfl
      | true => have := d.pw i hi hp; omega
    rw [hout i hi hp]
    exact d.yet i hi (.inr h)
  · cases h
    refine ⟨t0, b0, hgcd, fun ⟨h1, h2⟩ => ?_, ?_, fun i hi hw => ?_⟩
    · -- all have caps, and these come to more than the total
      have hlt : S (fun i => t * w i) ((List.range n).filter p) < S (fun i => capN cap i * b) ((List.range n).filter p) := S_lt (fun i hi => by
        obtain ⟨ha, hb⟩ := List.mem_filter.mp hi
        have hs := h1 i (List.mem_range.mp ha) (hpos i hi)
        obtain ⟨c, e⟩ := Option.isSome_iff_exists.mp hs
        have := ins i hi c e
        show t * w i < (cap i).getD 0 * b
        rw [e]; exact this) hne
      rw [S_mul, S_mul_r, ← hW] at hlt
      have e1 : t * W = T * b := by rw [eT, eW, Int.mul_comm b g, ← Int.mul_assoc]
      rw [e1] at hlt
      have hlt2 := Int.lt_of_mul_lt_mul_right hlt (Int.le_of_lt b0)
      rw [hsplit] at h2
      have := d.sum
      omega
    · rw [hsplit]
      have e1 : S (fun i => less (cap i) b (t * w i)) ((List.range n).filter p) = t * W := by
        rw [hW, ← S_mul]
        refine S_congr fun i hi => ?_
        cases e : cap i with
        | none => simp [less]
        | some c =>
          have := ins i hi c e
          simp only [less]
          omega
      have e2 : S (fun i => less (cap i) b (t * w i)) ((List.range n).filter fun i => decide (0 < w i) && !p i) = S (capN cap) ((List.range n).filter fun i => decide (0 < w i) && !p i) * b := by
        rw [← S_mul_r]
        refine S_congr fun i hi => ?_
        obtain ⟨c, e, h⟩ := outs i hi
        unfold capN
        rw [e]
        simp only [less, Option.getD_some]
        omega
      rw [e1, e2]
      have e3 : t * W = T * b := by rw [eT, eW, Int.mul_comm b g, ← Int.mul_assoc]
      rw [e3, ← Int.add_mul, d.sum]
    · cases hp : p i with
      | true =>
        have hr := hrest i hi
        rw [hp] at hr
        unfold restB at hr
        rw [Bool.and_eq_true] at hr
        have hh : heldB t b w cap i = false := by simpa using hr.2
        rw [hin i hi hp, hh, epre i (Nat.le_of_lt hi)]
        rfl
      | false =>
        obtain ⟨c, e, h1, h2⟩ := d.out i hi hw hp
        rw [← hW] at h2
        rw [hout i hi hp, h1, heldB_iff e, decide_eq_true ((cmp c i).mp h2)]
        unfold capN
        rw [e]; rfl
end
/-! #### lists of places, levels as values -/
theorem lcYs_range (n : Nat) (p : Nat → Bool) (ys : Nat → Option V) (h : ∀ i, i < n → ys i = if p i = true then some (.int (i : Int)) else none) : lcYs n ys = natsV ((List.range n).filter p) := by
  have key : ∀ m, m ≤ n → lcYs m ys = natsV ((List.range m).filter p) := by
    intro m
    induction m with
    | zero => intro _; rfl
    | succ m ih =>
      intro hm
      rw [lcYs_succ, ih (by omega), h m (by omega), List.range_succ, List.filter_append]
      unfold natsV
      rw [List.map_append]
      congr 1
      cases hp : p m <;> simp [hp]
  exact key n (Nat.le_refl _)
theorem rep_zero (n : Nat) : (List.replicate n [V.int 0]).flatten = (List.replicate n (0 : Int)).map V.int := by
  induction n with
  | zero => rfl
  | succ n ih => rw [List.replicate_succ, List.flatten_cons, ih, List.replicate_succ, List.map_cons]; rfl
theorem inV_nats (i : Nat) : ∀ l : List Nat, inV (.int (i : Int)) (natsV l) = decide (i ∈ l)
  | [] => by simp [inV]
  | j :: l => by
    have ih := inV_nats i l
    unfold inV at ih ⊢
    simp only [natsV, List.map_cons, List.any_cons] at ih ⊢
    rw [ih]
    have e : eqV (V.int (j : Int)) (V.int (i : Int)) = decide (j = i) := by
      by_cases hj : j = i
      · subst hj; simp [eqV]
      · have : ¬ ((j : Int) = (i : Int)) := by omega
        simp [eqV, hj, this]
    rw [e]
    by_cases hj : j = i
    · subst hj; simp
    · have : ¬ i = j := fun z => hj z.symm
      simp [hj, this]
theorem flat_nats (l : List Nat) : (natsV l).all flatV = true := by
  rw [List.all_eq_true]
  intro x hx
  obtain ⟨i, _, rfl⟩ := List.mem_map.mp hx
  rfl
def natI (l : List Nat) : List Int := l.map fun i : Nat => (i : Int)
theorem natsV_eq (l : List Nat) : (natI l).map V.int = natsV l := by unfold natI; rw [List.map_map]; rfl
theorem natI_nil {l : List Nat} : natI l = [] ↔ l = [] := by unfold natI; exact List.map_eq_nil_iff
theorem nat_of_map {l : List Nat} {i : Nat} {y : V} (h : (natsV l)[i]? = some y) : ∃ c, l[i]? = some c ∧ y = V.int (c : Int) := by
  rw [List.getElem?_map] at h
  cases e : l[i]? with
  | none => rw [e] at h; cases h
  | some c => rw [e] at h; exact ⟨c, rfl, (Option.some.inj h).symm⟩
theorem int_at {ws : List Int} {c : Nat} (h : c < ws.length) : (ws.map V.int)[c]? = some (.int (wAt ws c)) := by
  rw [List.getElem?_map, List.getElem?_eq_getElem h]
  unfold wAt
  rw [List.getD_eq_getElem?_getD, List.getElem?_eq_getElem h]; rfl
def cAt (cs : List (Option Int)) (i : Nat) : Option Int := cs.getD i none
theorem opt_at {cs : List (Option Int)} {c : Nat} (h : c < cs.length) : (cs.map optI)[c]? = some (optI (cAt cs c)) := by
  rw [List.getElem?_map, List.getElem?_eq_getElem h]
  unfold cAt
  rw [List.getD_eq_getElem?_getD, List.getElem?_eq_getElem h]; rfl
theorem wAt_mem {ws : List Int} {i : Nat} (h : i < ws.length) : wAt ws i ∈ ws := by
  unfold wAt
  rw [List.getD_eq_getElem?_getD, List.getElem?_eq_getElem h]
  exact List.getElem_mem h
theorem cAt_mem {cs : List (Option Int)} {i : Nat} {z : Int} (h : cAt cs i = some z) : some z ∈ cs := by
  unfold cAt at h
  rw [List.getD_eq_getElem?_getD] at h
  cases e : cs[i]? with
  | none => rw [e] at h; cases h
  | some c => rw [e] at h; have : c = some z := h; rw [← this]; exact List.mem_of_getElem? e
/-- a level as it stands -/
def LvAt (H : Hp) (lv : Option (Int × Int)) (v : V) : Prop := match lv with
  | none => v = .non
  | some (t, b) => ∃ r, v = .ref r ∧ H r = some (.tup [.int t, .int b])
theorem filter_not_mem {p q : Nat → Bool} {l : List Nat} : ((l.filter p).filter fun i => !decide (i ∈ (l.filter p).filter q)) = l.filter fun i => p i && !q i := by
  rw [filter_and]
  refine List.filter_congr fun i hi => ?_
  cases hp : p i with
  | false => rfl
  | true =>
    have : decide (i ∈ (l.filter p).filter q) = q i := by
      cases hq : q i with
      | true => exact decide_eq_true (List.mem_filter.mpr ⟨List.mem_filter.mpr ⟨hi, hp⟩, hq⟩)
      | false => exact decide_eq_false fun hm => by have := (List.mem_filter.mp hm).2; rw [hq] at this; cases this
    rw [this]
theorem filter_lt {α : Type} {q : α → Bool} {l : List α} {j : α} (h : j ∈ l) (hq : q j = false) : (l.filter q).length < l.length := by
  have h1 := List.length_filter_le q l
  have h2 : (l.filter q).length ≠ l.length := fun e => by
    have := (List.length_filter_eq_length_iff.mp e) j h
    rw [hq] at this; cases this
  omega
theorem putAll_take {ps : List (Nat × Int)} {i : Nat} {q : Nat × Int} (h : ps[i]? = some q) (f : List Int) : putAll f (ps.take (i + 1)) = (putAll f (ps.take i)).set q.1 q.2 := by
  unfold putAll
  rw [List.take_add_one, h]
  show List.foldl _ f (ps.take i ++ [q]) = _
  rw [List.foldl_append]
  rfl
theorem ixN_nat {n i : Nat} (h : i < n) : ixN n (i : Int) = some i := by
  unfold ixN
  rw [if_pos (by omega), if_pos (by omega)]
  simp
theorem map_set {α β : Type} (f : α → β) (l : List α) (i : Nat) (x : α) : (l.map f).set i (f x) = (l.set i x).map f := (List.map_set).symm
end My

/-! ### totals levelled by floors and weights: plain mathematics -/
namespace My
open PySem L2
theorem S_range : ∀ ws : List Int, S (wAt ws) (List.range ws.length) = ws.sum := fun ws => by
  have : (List.range ws.length).map (wAt ws) = ws := by
    apply List.ext_getElem?
    intro i
    rw [List.getElem?_map]
    by_cases h : i < ws.length
    · rw [List.getElem?_range h, List.getElem?_eq_getElem h]
      show some (ws.getD i 0) = _
      rw [List.getD_eq_getElem?_getD, List.getElem?_eq_getElem h]; rfl
    · rw [List.getElem?_eq_none (by rw [List.length_range]; omega), List.getElem?_eq_none (by omega)]; rfl
  unfold S
  rw [this]
theorem keep_floor {c w T W T' W' : Int} (hW : 0 < W) (hw : 0 ≤ w) (hW' : 0 ≤ W') (h : T * w ≤ c * W) (hr : T' * W ≤ T * W') : T' * w ≤ c * W' := by
  have h1 : T * w * W' ≤ c * W * W' := Int.mul_le_mul_of_nonneg_right h hW'
  have h2 : T' * W * w ≤ T * W' * w := Int.mul_le_mul_of_nonneg_right hr hw
  have e1 : c * W * W' = c * W' * W := by rw [Int.mul_assoc, Int.mul_comm W W', ← Int.mul_assoc]
  have e2 : T * w * W' = T * W' * w := by rw [Int.mul_assoc, Int.mul_comm w W', ← Int.mul_assoc]
  have e3 : T' * W * w = T' * w * W := by rw [Int.mul_assoc, Int.mul_comm W w, ← Int.mul_assoc]
  exact Int.le_of_mul_le_mul_right (by rw [← e1, ← e3]; omega) hW
/-- the floor is no less than level times weight -/
def highB (T W : Int) (w fl : Nat → Int) (i : Nat) : Bool := decide (T * w i ≤ fl i * W)
def restL (t b : Int) (w fl : Nat → Int) (i : Nat) : Bool := decide (0 < w i) && !highB t b w fl i
/-- the spec -/
structure Lev (n : Nat) (w fl : Nat → Int) (total : Int) (lv : Option (Int × Int)) (fs : List Int) : Prop where
  len : fs.length = n
  non : lv = none → (∀ i, i < n → fs[i]? = some (fl i)) ∧ (S w (List.range n) = 0 ∨ total ≤ S fl (List.range n))
  lev : ∀ t b, lv = some (t, b) → 0 ≤ t ∧ 0 < b ∧ Int.gcd t b = 1 ∧ ¬ (S w (List.range n) = 0 ∨ total ≤ S fl (List.range n)) ∧
    S (fun i => max (fl i * b) (t * w i)) (List.range n) = total * b ∧ fs.sum = total ∧
    ∀ i, i < n → fs[i]? = some (if restL t b w fl i then part t b (pre w (restL t b w fl) i) (w i) else fl i)
/-- between two turns -/
structure LI (n : Nat) (w fl : Nat → Int) (total : Int) (p : Nat → Bool) (T : Int) : Prop where
  pw : ∀ i, i < n → p i = true → 0 < w i
  ne : (List.range n).filter p ≠ []
  lt : S fl ((List.range n).filter p) < T
  out : ∀ i, i < n → 0 < w i → p i = false → T * w i ≤ fl i * S w ((List.range n).filter p)
  sum : T + S fl ((List.range n).filter fun i => !p i) = total
section
variable {n : Nat} {w fl : Nat → Int} {total T : Int} {p : Nat → Bool}
theorem LI.start (hw : ∀ i, i < n → 0 ≤ w i) (hne : (List.range n).filter (fun i => decide (0 < w i)) ≠ []) (hlt : S fl (List.range n) < total) :
    LI n w fl total (fun i => decide (0 < w i)) (total - S fl ((List.range n).filter fun i => decide (w i = 0))) := by
  have e0 : ((List.range n).filter fun i => decide (w i = 0)) = (List.range n).filter fun i => !decide (0 < w i) := filter_congr' fun i hi => by
    have := hw i (List.mem_range.mp hi)
    by_cases h : 0 < w i
    · rw [decide_eq_true h, decide_eq_false (by omega)]; rfl
    · rw [decide_eq_false h, decide_eq_true (by omega)]; rfl
  have e := S_split fl (fun i => decide (0 < w i)) (List.range n)
  refine ⟨fun i _ h => of_decide_eq_true h, hne, ?_, fun i _ h1 h2 => absurd h1 (of_decide_eq_false h2), ?_⟩
  · rw [e0]; omega
  · rw [e0]; omega
theorem LI.W0 (d : LI n w fl total p T) : 0 < S w ((List.range n).filter p) := S_pos (fun i hi => by
  obtain ⟨h1, h2⟩ := List.mem_filter.mp hi
  exact d.pw i (List.mem_range.mp h1) h2) d.ne
/-- the high ones leave -/
theorem LI.turn (hfl : ∀ i, i < n → 0 ≤ fl i) (d : LI n w fl total p T) (W : Int) (hW : W = S w ((List.range n).filter p)) (high : List Nat) (hh : high = ((List.range n).filter p).filter (highB T W w fl)) :
    LI n w fl total (fun i => p i && !highB T W w fl i) (T - S fl high) := by
  have W0 : 0 < W := by rw [hW]; exact d.W0
  have mh : ∀ i ∈ high, (i < n ∧ p i = true) ∧ T * w i ≤ fl i * W := fun i hi => by
    rw [hh] at hi
    obtain ⟨h1, h2⟩ := List.mem_filter.mp hi
    obtain ⟨h3, h4⟩ := List.mem_filter.mp h1
    exact ⟨⟨List.mem_range.mp h3, h4⟩, of_decide_eq_true h2⟩
  have hF : T * S w high ≤ S fl high * W := by
    rw [← S_mul_r, ← S_mul]
    exact S_le fun i hi => (mh i hi).2
  have spw : W = S w high + S w ((List.range n).filter fun i => p i && !highB T W w fl i) := by
    have e := S_split w (highB T W w fl) ((List.range n).filter p)
    rw [← hh, filter_and, ← hW] at e
    exact e
  have spf : S fl ((List.range n).filter p) = S fl high + S fl ((List.range n).filter fun i => p i && !highB T W w fl i) := by
    have e := S_split fl (highB T W w fl) ((List.range n).filter p)
    rw [← hh, filter_and] at e
    exact e
  have dl := d.lt
  have W'0 : 0 ≤ S w ((List.range n).filter fun i => p i && !highB T W w fl i) := S_nonneg fun i hi => by
    obtain ⟨h1, h2⟩ := List.mem_filter.mp hi
    have := d.pw i (List.mem_range.mp h1) (Bool.and_eq_true_iff.mp h2).1
    omega
  have hr : (T - S fl high) * W ≤ T * S w ((List.range n).filter fun i => p i && !highB T W w fl i) := by
    have e1 : S w ((List.range n).filter fun i => p i && !highB T W w fl i) = W - S w high := by omega
    rw [e1, Int.mul_sub, Int.sub_mul]; omega
  refine ⟨fun i hi h => d.pw i hi (Bool.and_eq_true_iff.mp h).1, fun he => ?_, by omega, fun i hi hw hp' => ?_, ?_⟩
  · rw [he, S_nil] at spw spf
    have e1 : S w high = W := by omega
    rw [e1] at hF
    have := Int.le_of_mul_le_mul_right hF W0
    omega
  · refine keep_floor W0 (Int.le_of_lt hw) W'0 ?_ hr
    cases hp : p i with
    | false => have := d.out i hi hw hp; rw [← hW] at this; exact this
    | true =>
      have h1 : highB T W w fl i = true := by rw [hp] at hp'; simpa using hp'
      exact of_decide_eq_true h1
  · have e1 : S fl ((List.range n).filter fun i => !(p i && !highB T W w fl i)) = S fl high + S fl ((List.range n).filter fun i => !p i) := by
      rw [S_split fl p ((List.range n).filter fun i => !(p i && !highB T W w fl i)), filter_and, filter_and, hh, filter_and]
      congr 1
      · congr 1
        refine filter_congr' fun i _ => ?_
        cases p i <;> cases highB T W w fl i <;> rfl
      · congr 1
        refine filter_congr' fun i _ => ?_
        cases p i <;> simp
    have := d.sum
    omega
theorem parts_sum (t b : Int) (w : Nat → Int) (p : Nat → Bool) : ∀ n, S (fun i => part t b (pre w p i) (w i)) ((List.range n).filter p) = t * pre w p n / b
  | 0 => by simp [S_nil, pre]
  | n + 1 => by
    rw [List.range_succ, List.filter_append, S_append, parts_sum t b w p n]
    cases hp : p n with
    | false => simp [hp, S_nil, pre]
    | true =>
      rw [List.filter_cons, if_pos hp, List.filter_nil, S_cons, S_nil]
      simp only [pre, hp, if_true, part]
      omega
/-- nobody is high any more: the level -/
theorem LI.fin (hfl : ∀ i, i < n → 0 ≤ fl i) (hw0 : ∀ i, i < n → 0 ≤ w i) (d : LI n w fl total p T) (W : Int) (hW : W = S w ((List.range n).filter p)) (hh : ((List.range n).filter p).filter (highB T W w fl) = []) {t b g : Int}
    (eT : T = t * g) (eW : W = b * g) (hg : 0 < g) (hgcd : Int.gcd t b = 1) (f : List Int) (hfn : f.length = n) (hf : ∀ i, i < n → f[i]? = some (fl i)) (hno : ¬ (S w (List.range n) = 0 ∨ total ≤ S fl (List.range n))) :
    Lev n w fl total (some (t, b)) (putAll f (runD t b w ((List.range n).filter p) 0)) := by
  have W0 : 0 < W := by rw [hW]; exact d.W0
  have b0 : 0 < b := Int.pos_of_mul_pos_right (by rw [Int.mul_comm] at eW; rw [← eW]; exact W0) hg
  have F0 : 0 ≤ S fl ((List.range n).filter p) := S_nonneg fun i hi => hfl i (List.mem_range.mp (List.mem_filter.mp hi).1)
  have t0 : 0 ≤ t := by
    by_cases h : 0 ≤ t
    · exact h
    · have : t * g < 0 := Int.mul_neg_of_neg_of_pos (by omega) hg
      have := d.lt
      omega
  have cmp : ∀ i, (T * w i ≤ fl i * W ↔ t * w i ≤ fl i * b) := fun i => by
    have e1 : fl i * W = fl i * b * g := by rw [eW, Int.mul_assoc]
    have e2 : T * w i = t * w i * g := by rw [eT, Int.mul_assoc, Int.mul_comm g, ← Int.mul_assoc]
    rw [e1, e2]
    exact ⟨fun h => Int.le_of_mul_le_mul_right h hg, fun h => Int.mul_le_mul_of_nonneg_right h (Int.le_of_lt hg)⟩
  have ins : ∀ i, i < n → p i = true → fl i * b < t * w i := fun i hi hp => by
    have h := List.filter_eq_nil_iff.mp hh i (List.mem_filter.mpr ⟨List.mem_range.mpr hi, hp⟩)
    have h3 : ¬ t * w i ≤ fl i * b := fun z => h (decide_eq_true ((cmp i).mpr z))
    omega
  have outs : ∀ i, i < n → p i = false → t * w i ≤ fl i * b := fun i hi hp => by
    by_cases hw : 0 < w i
    · have h := d.out i hi hw hp
      rw [← hW] at h
      exact (cmp i).mp h
    · have : w i = 0 := by have := hw0 i hi; omega
      rw [this, Int.mul_zero]
      exact Int.mul_nonneg (hfl i hi) (Int.le_of_lt b0)
  have hrest : ∀ i, i < n → restL t b w fl i = p i := fun i hi => by
    unfold restL highB
    cases hp : p i with
    | true =>
      have := ins i hi hp
      rw [decide_eq_true (d.pw i hi hp), decide_eq_false (by omega)]; rfl
    | false => rw [decide_eq_true (outs i hi hp)]; simp
  have epre : ∀ i, i ≤ n → pre w (restL t b w fl) i = pre w p i := by
    intro i hi
    rw [pre_eq, pre_eq]
    congr 1
    exact filter_congr' fun j hj => hrest j (by have := List.mem_range.mp hj; omega)
  have hrun := runD_range t b w p n
  have fst : (runD t b w ((List.range n).filter p) 0).map (·.1) = (List.range n).filter p := runD_fst ..
  have hin : ∀ i, i < n → p i = true → (putAll f (runD t b w ((List.range n).filter p) 0))[i]? = some (part t b (pre w p i) (w i)) := fun i hi hp =>
    putAll_in (g := fun i => part t b (pre w p i) (w i)) _ f (fun q hq => (hrun q hq).2.2) (by rw [fst]; exact List.mem_filter.mpr ⟨List.mem_range.mpr hi, hp⟩) (by rw [hfn]; exact hi)
  have hout : ∀ i, i < n → p i = false → (putAll f (runD t b w ((List.range n).filter p) 0))[i]? = some (fl i) := fun i hi hp => by
    rw [putAll_out _ f (by rw [fst]; intro hm; have := (List.mem_filter.mp hm).2; rw [hp] at this; cases this)]
    exact hf i hi
  have tWb : t * W = T * b := by rw [eT, eW, Int.mul_comm b g, ← Int.mul_assoc]
  have hlen : (putAll f (runD t b w ((List.range n).filter p) 0)).length = n := by rw [putAll_len]; exact hfn
  refine ⟨hlen, (fun h => by cases h), fun t' b' h => ?_⟩
  cases h
  refine ⟨t0, b0, hgcd, hno, ?_, ?_, fun i hi => ?_⟩
  · rw [S_split _ p]
    have e1 : S (fun i => max (fl i * b) (t * w i)) ((List.range n).filter p) = T * b := by
      rw [← tWb, hW, ← S_mul]
      refine S_congr fun i hi => ?_
      obtain ⟨h1, h2⟩ := List.mem_filter.mp hi
      have := ins i (List.mem_range.mp h1) h2
      omega
    have e2 : S (fun i => max (fl i * b) (t * w i)) ((List.range n).filter fun i => !p i) = S fl ((List.range n).filter fun i => !p i) * b := by
      rw [← S_mul_r]
      refine S_congr fun i hi => ?_
      obtain ⟨h1, h2⟩ := List.mem_filter.mp hi
      have := outs i (List.mem_range.mp h1) (by simpa using h2)
      omega
    rw [e1, e2, ← Int.add_mul, d.sum]
  · rw [← S_range, hlen, S_split _ p]
    have at1 : ∀ i, i < n → ∀ v, (putAll f (runD t b w ((List.range n).filter p) 0))[i]? = some v → wAt (putAll f (runD t b w ((List.range n).filter p) 0)) i = v := fun i hi v h => by
      unfold wAt
      rw [List.getD_eq_getElem?_getD, h]; rfl
    have e1 : S (wAt (putAll f (runD t b w ((List.range n).filter p) 0))) ((List.range n).filter p) = T := by
      have e : S (wAt (putAll f (runD t b w ((List.range n).filter p) 0))) ((List.range n).filter p) = S (fun i => part t b (pre w p i) (w i)) ((List.range n).filter p) := S_congr fun i hi => by
        obtain ⟨h1, h2⟩ := List.mem_filter.mp hi
        exact at1 i (List.mem_range.mp h1) _ (hin i (List.mem_range.mp h1) h2)
      rw [e, parts_sum, pre_eq, ← hW, tWb]
      exact Int.mul_ediv_cancel _ (by omega)
    have e2 : S (wAt (putAll f (runD t b w ((List.range n).filter p) 0))) ((List.range n).filter fun i => !p i) = S fl ((List.range n).filter fun i => !p i) := S_congr fun i hi => by
      obtain ⟨h1, h2⟩ := List.mem_filter.mp hi
      exact at1 i (List.mem_range.mp h1) _ (hout i (List.mem_range.mp h1) (by simpa using h2))
    rw [e1, e2, d.sum]
  · rw [hrest i hi, epre i (Nat.le_of_lt hi)]
    cases hp : p i with
    | true => exact hin i hi hp
    | false => exact hout i hi hp
end
/-- what one gets by running sums is no less than a floor under level times weight -/
theorem part_floor {t b beh w c : Int} (b0 : 0 < b) (h : c * b < t * w) : c ≤ part t b beh w := by
  unfold part
  have e : t * (beh + w) = t * beh + t * w := Int.mul_add ..
  have h1 : t * beh / b + c ≤ t * (beh + w) / b := by
    rw [Int.le_ediv_iff_mul_le b0, Int.add_mul, e]
    have := Int.ediv_mul_le (t * beh) (by omega : b ≠ 0)
    omega
  omega
end My

namespace My
open PySem L2
theorem atK {xs : List V} {k : Nat} {v : V} (h : xs[k]? = some v) : atI xs (k : Int) = some v := by
  unfold atI
  rw [ixN_nat (List.getElem?_eq_some_iff.mp h).1]
  exact h
/-- a draw off the first ones of a list -/
theorem pickP {P : V → Prop} {xs : List V} (ys : List V) {n : Int} (h : ∀ x ∈ xs, P x) (h0 : 0 ≤ n) (h1 : n < xs.length) : ∃ x, atI (xs ++ ys) n = some x ∧ P x := by
  obtain ⟨k, rfl⟩ := Int.eq_ofNat_of_zero_le h0
  have hk : k < xs.length := by omega
  exact ⟨xs[k], atK (by rw [List.getElem?_append_left hk]; exact List.getElem?_eq_getElem hk), h _ (List.getElem_mem hk)⟩
theorem allC {P : V → Prop} {x : V} {xs : List V} (h : P x) (t : ∀ y ∈ xs, P y) : ∀ y ∈ x :: xs, P y := List.forall_mem_cons.mpr ⟨h, t⟩
theorem allN {P : V → Prop} : ∀ y ∈ ([] : List V), P y := fun _ h => by cases h
end My

/-! ### slices by plain numbers -/
namespace My
open PySem L2
theorem cutV_take (xs : List V) (j : Nat) : cutV xs none (some (j : Int)) = xs.take j := by
  unfold cutV
  rw [HT.sIx_none, HT.sIx_nat, List.drop_zero, Nat.sub_zero]
  by_cases h : j ≤ xs.length
  · rw [Nat.min_eq_left h]
  · rw [Nat.min_eq_right (by omega), List.take_of_length_le (Nat.le_refl _), List.take_of_length_le (by omega)]
theorem cutV_drop (xs : List V) (j : Nat) : cutV xs (some (j : Int)) none = xs.drop j := by
  unfold cutV
  rw [HT.sIx_none, HT.sIx_nat]
  by_cases h : j ≤ xs.length
  · rw [Nat.min_eq_left h, List.take_of_length_le (by rw [List.length_drop]; omega)]
  · rw [Nat.min_eq_right (by omega), List.drop_of_length_le (Nat.le_refl _), List.drop_of_length_le (by omega), List.take_nil]
theorem cutV_mid (xs : List V) (i j : Nat) (h : i ≤ j) : cutV xs (some (i : Int)) (some (j : Int)) = (xs.take j).drop i := by
  unfold cutV
  rw [HT.sIx_nat, HT.sIx_nat]
  by_cases h1 : i ≤ xs.length
  · by_cases h2 : j ≤ xs.length
    · rw [Nat.min_eq_left h1, Nat.min_eq_left h2, List.drop_take]
    · rw [Nat.min_eq_left h1, Nat.min_eq_right (by omega), List.take_of_length_le (by rw [List.length_drop]; omega), List.take_of_length_le (by omega)]
  · rw [Nat.min_eq_right (show xs.length ≤ i by omega), List.drop_of_length_le (Nat.le_refl _), List.take_nil, List.drop_of_length_le (by rw [List.length_take]; omega)]
theorem cutV_init (xs : List V) : cutV xs none (some (-1)) = xs.take (xs.length - 1) := by
  unfold cutV
  have e : HT.sIx xs.length xs.length (some (-1)) = xs.length - 1 := by
    show (if (-1 : Int) < 0 then ((-1 : Int) + (xs.length : Int)).toNat else min (-1 : Int).toNat xs.length) = xs.length - 1
    rw [if_pos (by decide)]; omega
  rw [HT.sIx_none, e, List.drop_zero, Nat.sub_zero]
end My

namespace My
open PySem PySem.Spec PyProof.Rows L2
section
variable {P : Program} {w : World} {K : PySem.W.Frag} {mg : Str → Option Value} {base : Heap}
def sp_is_whole : Sp := fun vs H Q _ => ∃ (x : V) (t : String), vs = [x] ∧ Ty7 H x t ∧ Q (.bl (isI x)) H
theorem ok_is_whole (T : Tx K mg) : FnOk P w K mg base CX0 1 T.d_is_whole.f T.d_is_whole.fd ["thing"] (sp_is_whole) := by
  refine T.d_is_whole.F.ok sc_is_whole (fun vs H Q E h => ?_) (fun cdv A outer s H vs Q E hr h => ?_)
  · obtain ⟨x, t, rfl, _⟩ := h
    rfl
  · obtain ⟨x, t, rfl, ht, k⟩ := h
    refine ⟨_, (pss_one (ps_ret (pe_and (pe_callB is_int (by rfl) T.b_isinstance (by decide +kernel) (pa_cons (pv 0) (pa_cons (pe_bltn (v := .ty "int") (by rfl) T.b_int (by decide +kernel) rfl) pa_nil))) (pe_one (pe_not (pe_callB is_bool (by rfl) T.b_isinstance (by decide +kernel) (pa_cons (pv 0) (pa_cons (pe_bltn (v := .ty "bool") (by rfl) T.b_bool (by decide +kernel) rfl) pa_nil)))))))), ?_⟩
    tm_at "rds"
    refine ite2 (fun e => ?_) (fun e => ?_)
    · tm_at "rds"
      rw [isI_bool e]
      exact k
    · rw [isI_no e]
      exact k
end
end My
namespace My
open PySem PySem.Spec PyProof.Rows L2
section
variable {P : Program} {w : World} {K : PySem.W.Frag} {mg : Str → Option Value} {base : Heap}
def sp_is_from_nought : Sp := fun vs H Q _ => ∃ (x : V) (t : String), vs = [x] ∧ Ty7 H x t ∧ Q (.bl (isN x)) H
theorem ok_is_from_nought (T : Tx K mg) : FnOk P w K mg base CX0 2 T.d_is_from_nought.f T.d_is_from_nought.fd ["thing"] (sp_is_from_nought) := by
  refine T.d_is_from_nought.F.ok sc_is_from_nought (fun vs H Q E h => ?_) (fun cdv A outer s H vs Q E hr h => ?_)
  · obtain ⟨x, t, rfl, _⟩ := h
    rfl
  · obtain ⟨x, t, rfl, ht, k⟩ := h
    refine ⟨_, (pss_one (ps_ret (pe_and (pe_call (ok_is_whole T) (hr.mono (by decide)) (by rfl) T.d_is_whole.g T.d_is_whole.F.kp T.d_is_whole.b .nil pass0 (pa_cons (pv 0) pa_nil)) (pe_one (pe_cmpR op_ge (pv 0) pe_int (nomark _)))))), ?_⟩
    refine ⟨_, rfl, x, t, rfl, ht, ?_⟩
    tm_at "rds"
    refine ite2 (fun e => ?_) (fun e => ?_)
    · obtain ⟨i, rfl⟩ := isI_of e
      tm_at "rds"
      exact k
    · have : false = isN x := by cases x <;> simp_all [isI, isN]
      rw [this]
      exact k
end
end My
namespace My
open PySem PySem.Spec PyProof.Rows L2
section
variable {P : Program} {w : World} {K : PySem.W.Frag} {mg : Str → Option Value} {base : Heap}
def sp_check_total (cN : Addr) : Sp := fun vs H Q E => ∃ (x : V) (t : String), vs = [x] ∧ Ty7 H x t ∧ (isN x = true → Q .non H) ∧ (isN x = false → E (.ref cN) none H)
theorem ok_check_total (T : Tx K mg) : FnOk P w K mg base (L2.CX P w) 3 T.d_check_total.f T.d_check_total.fd ["total"] (sp_check_total T.e_NoNumber.C) := by
  refine T.d_check_total.F.okX sc_check_total (fun vs H Q E h => ?_) (fun cdv A outer s H vs Q E hr h => ?_)
  · obtain ⟨x, t, rfl, _⟩ := h
    rfl
  · obtain ⟨x, t, rfl, ht, k1, k2⟩ := h
    refine ⟨_, (pss_one (ps_if (pt_not (pt_val (pe_call (ok_is_from_nought T) (hr.mono (by decide)) (by rfl) T.d_is_from_nought.g T.d_is_from_nought.F.kp T.d_is_from_nought.b .nil pass0 (pa_cons (pv 0) pa_nil))))
      (pss_one (ps_raise rfl (takes_of rfl rfl rfl rfl) (pmk_own PySem.F.excBase_ValueError T.e_NoNumber.x T.e_NoNumber.g T.e_NoNumber.k (raises_own T.e_NoNumber.b T.e_NoNumber.t) rfl)))
      pss_nil)), ?_⟩
    tm_at "rzs"
    refine ite2 (fun e => ?_) (fun e => ?_)
    · exact k2 (by simpa using e)
    · exact k1 (by simpa using e)
end
end My
namespace My
open PySem PySem.Spec PyProof.Rows L2
section
variable {P : Program} {w : World} {K : PySem.W.Frag} {mg : Str → Option Value} {base : Heap}
/-- a list of n whole numbers from nought, or none -/
inductive Wts (H : Hp) (n : Int) : V → Bool → Prop
  | no {w : V} {ty : String} (h : Ty7 H w ty) (k : ty ≠ "list") : Wts H n w false
  | lst {a : Addr} {xs : List V} {b : Bool} (g : H a = some (.lst xs)) (t7 : ∀ x ∈ xs, ∃ ty, Ty7 H x ty) (l : xs.length ≤ 1000) (e : b = (decide ((xs.length : Int) = n) && xs.all isN)) : Wts H n (.ref a) b
theorem all_at {f : V → Bool} {xs : List V} : (List.range xs.length).map (fun i => f (xs.getD i .non)) = xs.map f := by
  apply List.ext_getElem?
  intro i
  rw [List.getElem?_map, List.getElem?_map]
  by_cases hi : i < xs.length
  · rw [List.getElem?_range hi, List.getElem?_eq_getElem hi]
    show some (f (xs.getD i .non)) = some (f xs[i])
    rw [List.getD_eq_getElem?_getD, List.getElem?_eq_getElem hi]; rfl
  · rw [List.getElem?_eq_none (by rw [List.length_range]; omega), List.getElem?_eq_none (by omega)]; rfl
def sp_check_weights (cN : Addr) : Sp := fun vs H Q E => ∃ (w : V) (n : Int) (b : Bool), vs = [w, .int n] ∧ Wts H n w b ∧ ∀ H', Same H H' → (b = true → Q .non H') ∧ (b = false → E (.ref cN) none H')
theorem ok_check_weights (T : Tx K mg) : FnOk P w K mg base (L2.CX P w) 3 T.d_check_weights.f T.d_check_weights.fd ["weights", "many"] (sp_check_weights T.e_NoNumber.C) := by
  refine T.d_check_weights.F.okX sc_check_weights (fun vs H Q E h => ?_) (fun cdv A outer s H vs Q E hr h => ?_)
  · obtain ⟨w, n, b, rfl, _⟩ := h
    rfl
  · obtain ⟨w, n, b, rfl, hw, k⟩ := h
    refine ⟨_, (pss_one (ps_if (PW.pt (pw_or (pt_not (pt_val (pe_callB is_list (by rfl) T.b_isinstance (by decide +kernel) (pa_cons (pv 0) (pa_cons (pe_bltn (v := .ty "list") (by rfl) T.b_list (by decide +kernel) rfl) pa_nil))))) (pw_or (pt_cmpR op_ne (pe_callB (call_lenK (K := K) rfl) (by rfl) T.b_len (by decide +kernel) (pa_cons (pv 0) pa_nil)) (pv 1) (nomark _)) (pw_or1 (pt_not (pt_val (pe_callB (cr_allK (K := K) rfl rfl) (by rfl) T.b_all (by decide +kernel) (pa_cons (pe_lc (own := [("one", 2)]) (g := gName 2) (by rfl) sc_check_weights.nd (pi_listK (K := K) rfl (pv 0)) (blkOk_by (own := [("one", 2)]) (N := N_check_weights) (sc := defScope s_check_weights) (by decide +kernel)) (fun _ _ _ _ _ => (pg_name (i := 2) sc_check_weights.nd rfl (Or.inl rfl))) (fun _ _ _ _ _ => pts_nil) (fun _ _ _ _ _ => (pe_call (ok_is_from_nought T) (hr.mono (by decide)) (by rfl) T.d_is_from_nought.g T.d_is_from_nought.F.kp T.d_is_from_nought.b .nil pass0 (pa_cons (pv 2) pa_nil)))) pa_nil))))))))
      (pss_one (ps_raise rfl (takes_of rfl rfl rfl rfl) (pmk_own PySem.F.excBase_ValueError T.e_NoNumber.x T.e_NoNumber.g T.e_NoNumber.k (raises_own T.e_NoNumber.b T.e_NoNumber.t) rfl)))
      pss_nil)), ?_⟩
    cases hw with
    | no h kk =>
      tm_at "rzs"
      refine iteT' (by show (!decide (_ = "list")) = true; rw [decide_eq_false kk]; rfl) ?_
      exact (k H (Same.refl _)).2 rfl
    | @lst a xs b g t7 l e =>
      tm_at "rzs"
      by_cases e1 : (xs.length : Int) = n
      rotate_left
      · refine iteT' (by rw [int_inj_dec, decide_eq_false e1]; rfl) ?_
        exact (k H (Same.refl _)).2 (by rw [e, decide_eq_false e1]; rfl)
      refine iteF' (by rw [int_inj_dec, decide_eq_true e1]; rfl) ?_
      tm_at "rzs"
      refine ⟨⟨_, sqL g⟩, fun D hD => lcLx (K := K) (xs := xs) (fun i => .bl (isN (xs.getD i .non))) hD (sqL g) (by omega) (fun i x H2 Kt Kf hx s2 kk => ?_) (fun H2 s2 g2 => ?_)⟩
      · obtain ⟨ty, h7⟩ := t7 x (List.mem_of_getElem? hx)
        have h7' := h7.mono s2
        rw [List.getD_eq_getElem?_getD, hx] at kk
        tm_at "rzs"
        exact kk _ (Same.refl _)
      rw [bls _ fun i => isN (xs.getD i .non), all_at] at g2
      tm_at "rzs"
      refine ⟨D, _, rfl, sqL g2, ?_⟩
      have e2 : (xs.map isN).all id = b := by rw [e, decide_eq_true e1, List.all_map]; rfl
      rw [e2]
      tm_at "rds"
      refine ite2 (fun e3 => ?_) (fun e3 => ?_)
      · exact (k H2 s2).2 (by simpa using e3)
      · exact (k H2 s2).1 (by simpa using e3)
end
end My
namespace My
open PySem PySem.Spec PyProof.Rows L2
section
variable {P : Program} {w : World} {K : PySem.W.Frag} {mg : Str → Option Value} {base : Heap}
def sp_lowest : Sp := fun vs H Q _ => ∃ (a b : Int), vs = [.int a, .int b] ∧ 0 ≤ a ∧ a < 2 ^ 64 ∧ 0 < b ∧ b < 2 ^ 64 ∧ New H (.tup [.int (a / (Int.gcd a b : Int)), .int (b / (Int.gcd a b : Int))]) Q
theorem ok_lowest (T : Tx K mg) : FnOk P w K mg base CX0 1 T.d_lowest.f T.d_lowest.fd ["top", "bottom"] (sp_lowest) := by
  refine T.d_lowest.F.ok sc_lowest (fun vs H Q E h => ?_) (fun cdv A outer s H vs Q E hr h => ?_)
  · obtain ⟨a, b, rfl, _⟩ := h
    rfl
  · obtain ⟨a, b, rfl, a0, a1, b0, b1, k⟩ := h
    refine ⟨_, (pss_cons (ps_par (i := 2) (j := 3) (by rfl) sc_lowest.nd rfl rfl (by decide) rfl rfl (pa_cons (pv 0) (pa_cons (pv 1) pa_nil)) (by rfl))
      (pss_cons (ps_while PassesOwn.never (pt_cmpR op_ne (pv 3) pe_int (nomark _))
      (pss_one (ps_par (i := 2) (j := 3) (by rfl) sc_lowest.nd rfl rfl (by decide) rfl rfl (pa_cons (pv 3) (pa_cons (pe_op op_mod (pv 2) (pv 3)) pa_nil)) (by rfl))))
      (pss_one (ps_ret (pe_tupA (pa_cons (pe_op op_fdivW (pv 0) (pv 2)) (pa_cons (pe_op op_fdivW (pv 1) (pv 2)) pa_nil))))))), ?_⟩
    tm_at "rds"
    obtain ⟨A0, rfl⟩ : ∃ n : Nat, a = (n : Int) := ⟨a.toNat, by omega⟩
    obtain ⟨B0, rfl⟩ : ∃ n : Nat, b = (n : Int) := ⟨b.toNat, by omega⟩
    refine ⟨fun m σ H' => ∃ x y : Nat, σ = [some (.int A0), some (.int B0), some (.int (x : Int)), some (.int (y : Int))] ∧ H' = H ∧ Nat.gcd x y = Nat.gcd A0 B0 ∧ m = y, ⟨_, A0, B0, rfl, rfl, rfl, rfl⟩, ?_⟩
    rintro m σ H' ⟨x, y, rfl, rfl, hg, rfl⟩
    tm_at "rds"
    have g0 : 0 < Nat.gcd A0 B0 := Nat.gcd_pos_of_pos_right _ (by omega)
    by_cases hy : m = 0
    · subst hy
      have e : (!decide (V.int ((0 : Nat) : Int) = V.int 0)) = false := rfl
      rw [e]
      refine iteF ?_
      rw [Nat.gcd_zero_right] at hg
      have eg : (Int.gcd (A0 : Int) (B0 : Int) : Int) = (x : Int) := by rw [hg]; rfl
      have x0 : 0 < x := by omega
      have x1 : x ≤ B0 := by rw [hg]; exact Nat.gcd_le_right _ (by omega)
      rw [eg] at k
      tm_at "rds"
      exact k
    · have e : (!decide (V.int (m : Int) = V.int 0)) = true := by
        have : ¬ V.int (m : Int) = V.int 0 := fun z => by have := V.int.inj z; omega
        rw [decide_eq_false this]; rfl
      rw [e]
      refine iteT ⟨_, fun _ _ h => h, ?_⟩
      have m0 : 0 < m := by omega
      have m0' : (0 : Int) < (m : Int) := by omega
      refine ⟨_, rfl, _, rfl, _, rfl, _, _, rfl, rfl, m0', _, _, rfl, ?_⟩
      refine ⟨x % m, Nat.mod_lt _ m0, m, x % m, ?_, rfl, ?_, rfl⟩
      · rw [Int.natCast_emod]; rfl
      · rw [← hg, Nat.gcd_comm m, ← Nat.gcd_rec, Nat.gcd_comm]
end
end My
namespace My
open PySem PySem.Spec PyProof.Rows L2
section
variable {P : Program} {w : World} {K : PySem.W.Frag} {mg : Str → Option Value} {base : Heap}
/-- a running dict -/
def runK (t b : Int) (ws : List Int) (chosen : List Nat) : List (Key × V) := (runD t b (wAt ws) chosen 0).map fun q => (Sum.inl (q.1 : Int), V.int q.2)
theorem runK_more (t b : Int) (ws : List Int) (l : List Nat) (i : Nat) (h : i ∉ l) : putK (runK t b ws l) (Sum.inl (i : Int)) (.int (part t b (S (wAt ws) l) (wAt ws i))) = runK t b ws (l ++ [i]) := by
  have e : valV (runK t b ws l) (Sum.inl (i : Int)) = none := by
    have ha := valV_any (Sum.inl (i : Int)) (runK t b ws l)
    have hf : ((runK t b ws l).any fun kv => decide (kv.1 = Sum.inl (i : Int))) = false := by
      rw [List.any_eq_false]
      intro q hq
      obtain ⟨r, hr, rfl⟩ := List.mem_map.mp hq
      simp only [decide_eq_true_eq]
      intro e
      have e2 : (r.1 : Int) = (i : Int) := Sum.inl.inj e
      have hm : r.1 ∈ (runD t b (wAt ws) l 0).map (·.1) := List.mem_map.mpr ⟨r, hr, rfl⟩
      rw [runD_fst] at hm
      exact h (by have : r.1 = i := by omega
                  rw [← this]; exact hm)
    rw [hf] at ha
    cases hv : valV (runK t b ws l) (Sum.inl (i : Int)) with
    | none => rfl
    | some v => rw [hv] at ha; cases ha
  rw [putK_new _ e]
  unfold runK
  rw [runD_append, List.map_append, Int.zero_add]
  rfl
theorem runK_len (t b : Int) (ws : List Int) (l : List Nat) : (runK t b ws l).length = l.length := by
  unfold runK
  rw [List.length_map]
  have := congrArg List.length (runD_fst t b (wAt ws) l 0)
  rw [List.length_map] at this
  exact this
def sp_running (K : PySem.W.Frag) : Sp := fun vs H Q _ => ∃ (L W C : Addr) (t b : Int) (ws : List Int) (ch : List Nat), vs = [.ref L, .ref W, .ref C] ∧ SqT K H L [.int t, .int b] ∧ SqL K H W (ws.map .int) ∧
  SqL K H C (natsV ch) ∧ 0 ≤ t ∧ t < 2 ^ 64 ∧ 0 < b ∧ b < 2 ^ 64 ∧ (∀ i ∈ ch, i < ws.length) ∧ ch.Nodup ∧ ch.length ≤ 1000 ∧
  ∀ d H', Same H H' → H d = none → H' d = some (.dK (runK t b ws ch)) → Q (.ref d) H'
theorem ok_running (T : Tx K mg) : FnOk P w K mg base CX0 1 T.d_running.f T.d_running.fd ["level", "weights", "chosen"] (sp_running K) := by
  refine T.d_running.F.ok sc_running (fun vs H Q E h => ?_) (fun cdv A outer s H vs Q E hr h => ?_)
  · obtain ⟨L, W, C, t, b, ws, ch, rfl, _⟩ := h
    rfl
  · obtain ⟨L, W, C, t, b, ws, ch, rfl, hL, hW, hC, t0, t1, b0, b1, hin, hnd, hlen, k⟩ := h
    refine ⟨_, (pss_cons (ps_asg (pv 0) (pg_tup (by rfl) (pgs_cons (pg_name (i := 3) sc_running.nd rfl (Or.inl rfl)) (pgs_cons (pg_name (i := 4) sc_running.nd rfl (Or.inl rfl)) pgs_nil))))
      (pss_cons (ps_asg2 pe_int (pg_name (i := 5) sc_running.nd rfl (Or.inl rfl)) (pg_name (i := 6) sc_running.nd rfl (Or.inl rfl)))
      (pss_cons (ps_set (i := 7) sc_running.nd rfl (Or.inl rfl) pe_dnewA)
      (pss_cons (ps_for PassesOwn.never (by rfl) (pi_listK (K := K) rfl (pv 2)) (pg_name (i := 8) sc_running.nd rfl (Or.inl rfl))
      (pss_cons (ps_aug (i := 6) sc_running.nd rfl (Or.inl rfl) (pe_ix (ix_listK (K := K) rfl) (pv 1) (pv 8) (fun _ _ => rfl)) ip_add)
      (pss_cons (ps_dput (hu_of hr) (pv 7) (pv 8) (pe_op op_sub (pe_op op_fdivW (pe_op op_mul (pv 3) (pv 6)) (pv 4)) (pe_op op_fdivW (pe_op op_mul (pv 3) (pv 5)) (pv 4))) rfl)
      (pss_one (ps_set (i := 5) sc_running.nd rfl (Or.inl rfl) (pv 6))))))
      (pss_one (ps_ret (pv 7))))))), ?_⟩
    refine ⟨_, rfl, _, _, rfl, hL, rfl, _, _, rfl, _, _, rfl, rfl, ?_⟩
    intro d H1 n1 S1 g1
    refine ⟨_, rfl, C, rfl, ⟨_, S1.seq hC⟩, for_list (K := K) (a := C) (xs := natsV ch) (fun i σ H2 => ∃ v : Option V, σ = [some (.ref L), some (.ref W), some (.ref C), some (.int t), some (.int b), some (.int (S (wAt ws) (ch.take i))), some (.int (S (wAt ws) (ch.take i))), some (.ref d), v] ∧
        Same H H2 ∧ H2 d = some (.dK (runK t b ws (ch.take i))))
      ⟨_, rfl, S1, g1⟩ (fun i σ H2 _ ⟨_, _, s2, _⟩ => s2.seq hC) ?_ ?_⟩
    · rintro i y σ H2 hi ⟨v, rfl, s2, g2⟩
      obtain ⟨c, hc, rfl⟩ : ∃ c, ch[i]? = some c ∧ y = V.int (c : Int) := by
        rw [List.getElem?_map] at hi
        cases e : ch[i]? with
        | none => rw [e] at hi; cases hi
        | some c => rw [e] at hi; exact ⟨c, rfl, (Option.some.inj hi).symm⟩
      have hci : c < ws.length := hin c (List.mem_of_getElem? hc)
      have hw : (ws.map V.int)[c]? = some (.int (wAt ws c)) := by
        rw [List.getElem?_map, List.getElem?_eq_getElem hci]
        unfold wAt
        rw [List.getD_eq_getElem?_getD, List.getElem?_eq_getElem hci]; rfl
      have e1 : ch.take (i + 1) = ch.take i ++ [c] := by rw [List.take_add_one, hc]; rfl
      have e2 : S (wAt ws) (ch.take (i + 1)) = S (wAt ws) (ch.take i) + wAt ws c := by rw [e1, S_append, S_cons, S_nil]; omega
      have hno : c ∉ ch.take i := fun hm => by
        obtain ⟨j, hj, ej⟩ := List.getElem_of_mem hm
        rw [List.length_take] at hj
        rw [List.getElem_take] at ej
        have := nd_ix hnd (i := j) (j := i) (x := c) (by rw [List.getElem?_eq_getElem (by omega), ej]) hc
        omega
      refine ⟨_, rfl, _, rfl, _, rfl, ⟨_, _, _, _, rfl, rfl, s2.seq hW, atI_nat hw, _, _, rfl, rfl, ?_⟩⟩
      refine ⟨_, rfl, _, rfl, _, _, rfl, rfl, .inl ⟨by omega, t1⟩, _, rfl, _, _, rfl, rfl, wide_div (b := 64) b0 (by omega) (by decide) (by decide), _, rfl, _, rfl, _, _, rfl, rfl, .inl ⟨by omega, t1⟩, _, rfl, _, _, rfl, rfl, wide_div (b := 64) b0 (by omega) (by decide) (by decide), _, _, rfl, rfl, ?_⟩
      refine ⟨_, rfl, _, rfl, d, _, rfl, DPut.k (k := Sum.inl (c : Int)) g2 ?_, ?_⟩
      · rw [runK_len, List.length_take]; exact small1000 (by omega)
      · refine ⟨_, rfl, some (.int (c : Int)), ?_, ?_, ?_⟩
        · rw [e2]; rfl
        · exact Same.mut s2 n1
        · rw [e1, ← runK_more t b ws _ c hno]
          exact upd_same
    · rintro σ H2 ⟨v, rfl, s2, g2⟩
      rw [List.length_map, List.take_length] at g2
      exact ⟨_, rfl, k d H2 s2 n1 g2⟩
end
end My
namespace My
open PySem PySem.Spec PyProof.Rows L2
section
variable {P : Program} {w : World} {K : PySem.W.Frag} {mg : Str → Option Value} {base : Heap}
def sp_dealt_parts (K : PySem.W.Frag) : Sp := fun vs H Q _ => ∃ (C W : Addr) (total : Int) (cs : List (Option Int)) (ws : List Int), vs = [.int total, .ref C, .ref W] ∧ SqL K H C (cs.map optI) ∧ SqL K H W (ws.map .int) ∧
  cs.length = ws.length ∧ ws.length ≤ 1000 ∧ 0 ≤ total ∧ total < 2 ^ 64 ∧ (∀ z, some z ∈ cs → 0 ≤ z) ∧ (∀ z ∈ ws, 0 ≤ z ∧ z < 2 ^ 48) ∧
  ∀ p q lv lvv fs H', Same H H' → H p = none → H q = none → H' p = some (.tup [lvv, .ref q]) → H' q = some (.lst (fs.map .int)) → LvAt H' lv lvv → (∀ t b, lv = some (t, b) → t < 2 ^ 64 ∧ b < 2 ^ 64) → Dealt ws.length (wAt ws) (cAt cs) total lv fs → Q (.ref p) H'
theorem ok_dealt_parts (T : Tx K mg) : FnOk P w K mg base CX0 2 T.d_dealt_parts.f T.d_dealt_parts.fd ["total", "caps", "weights"] (sp_dealt_parts K) := by
  refine T.d_dealt_parts.F.ok sc_dealt_parts (fun vs H Q E h => ?_) (fun cdv A outer s H vs Q E hr h => ?_)
  · obtain ⟨C, W, total, cs, ws, rfl, _⟩ := h
    rfl
  · obtain ⟨C, W, total, cs, ws, rfl, hC, hW, hlen, hn, T0, T1, hc0, hw0, k⟩ := h
    have wp : ∀ i, i < ws.length → 0 ≤ wAt ws i ∧ wAt ws i < 2 ^ 48 := fun i hi => hw0 _ (wAt_mem hi)
    refine ⟨_, (pss_cons (ps_setLc (i := 4) (own := [("at", 3), ("weight", 10)]) (g := gTup K 2 (gCons (gName 3) (gCons (gName 10) gNil))) (by rfl) sc_dealt_parts.nd rfl rfl (sw_true rfl rfl rfl (by decide +kernel)) (pi_enumK (K := K) rfl (by rfl) T.b_enumerate (pa_cons (pv 2) pa_nil)) (blkOk_by (own := [("at", 3), ("weight", 10)]) (N := N_dealt_parts) (sc := defScope s_dealt_parts) (by decide +kernel)) (fun _ _ _ _ _ => (pg_tup (by rfl) (pgs_cons (pg_name (i := 3) sc_dealt_parts.nd rfl (Or.inl rfl)) (pgs_cons (pg_name (i := 10) sc_dealt_parts.nd rfl (Or.inl rfl)) pgs_nil)))) (fun _ _ _ _ _ => (pts_one (pt_cmpR op_gt (pv 10) pe_int (nomark _)))) (fun _ _ _ _ _ => (pv 3)))
      (pss_cons (ps_set (i := 5) sc_dealt_parts.nd rfl (Or.inl rfl) (pe_op op_repA (pe_lstA (pa_cons pe_int pa_nil)) (pe_callB (call_lenK (K := K) rfl) (by rfl) T.b_len (by decide +kernel) (pa_cons (pv 2) pa_nil))))
      (pss_cons (ps_while PassesOwn.never (pt_cmpR (op_neIsK (K := K) hr.units rfl) (pv 4) (pe_lstA pa_nil) (nomark _))
      (pss_cons (ps_set (i := 6) sc_dealt_parts.nd rfl (Or.inr rfl) (pe_callB (cr_sumK (K := K) rfl rfl) (by rfl) T.b_sum (by decide +kernel) (pa_cons (pe_lc (own := [("at", 3)]) (g := gName 3) (by rfl) sc_dealt_parts.nd (pi_listK (K := K) rfl (pv 4)) (blkOk_by (own := [("at", 3)]) (N := N_dealt_parts) (sc := defScope s_dealt_parts) (by decide +kernel)) (fun _ _ _ _ _ => (pg_name (i := 3) sc_dealt_parts.nd rfl (Or.inl rfl))) (fun _ _ _ _ _ => pts_nil) (fun _ _ _ _ _ => (pe_ix (ix_listK (K := K) rfl) (pv 2) (pv 3) (fun _ _ => rfl)))) pa_nil)))
      (pss_cons (ps_set (i := 7) sc_dealt_parts.nd rfl (Or.inr rfl) (pe_lc (own := [("at", 3)]) (g := gName 3) (by rfl) sc_dealt_parts.nd (pi_listK (K := K) rfl (pv 4)) (blkOk_by (own := [("at", 3)]) (N := N_dealt_parts) (sc := defScope s_dealt_parts) (by decide +kernel)) (fun _ _ _ _ _ => (pg_name (i := 3) sc_dealt_parts.nd rfl (Or.inl rfl))) (fun _ _ _ _ _ => (pts_one (PW.pt (pw_and (pt_cmpR op_notN (pe_ix (ix_listK (K := K) rfl) (pv 1) (pv 3) (fun _ _ => rfl)) pe_non (nomark _)) (pw_and1 (pt_cmpR op_le (pe_op op_mul (pe_ix (ix_listK (K := K) rfl) (pv 1) (pv 3) (fun _ _ => rfl)) (pv 6)) (pe_op op_mul (pv 0) (pe_ix (ix_listK (K := K) rfl) (pv 2) (pv 3) (fun _ _ => rfl))) (nomark _))))))) (fun _ _ _ _ _ => (pv 3))))
      (pss_cons (ps_if (pt_cmpR (op_eqIsK (K := K) hr.units rfl) (pv 7) (pe_lstA pa_nil) (nomark _))
      (pss_cons (ps_set (i := 8) sc_dealt_parts.nd rfl (Or.inl rfl) (pe_call (ok_lowest T) (hr.mono (by decide)) (by rfl) T.d_lowest.g T.d_lowest.F.kp T.d_lowest.b .nil pass0 (pa_cons (pv 0) (pa_cons (pv 6) pa_nil))))
      (pss_cons (ps_for PassesOwn.never (by rfl) (pi_itemsN (pe_call (ok_running T) (hr.mono (by decide)) (by rfl) T.d_running.g T.d_running.F.kp T.d_running.b .nil pass0 (pa_cons (pv 8) (pa_cons (pv 2) (pa_cons (pv 4) pa_nil))))) (pg_tup (by rfl) (pgs_cons (pg_name (i := 3) sc_dealt_parts.nd rfl (Or.inl rfl)) (pgs_cons (pg_name (i := 9) sc_dealt_parts.nd rfl (Or.inl rfl)) pgs_nil)))
      (pss_one (ps_asg (pv 9) (pg_sub (pv 5) (pv 3) set_listA))))
      (pss_one (ps_ret (pe_tupA (pa_cons (pv 8) (pa_cons (pv 5) pa_nil)))))))
      pss_nil)
      (pss_cons (ps_for PassesOwn.never (by rfl) (pi_listK (K := K) rfl (pv 7)) (pg_name (i := 3) sc_dealt_parts.nd rfl (Or.inl rfl))
      (pss_cons (ps_asg (pe_ix (ix_listK (K := K) rfl) (pv 1) (pv 3) (fun _ _ => rfl)) (pg_sub (pv 5) (pv 3) set_listA))
      (pss_one (ps_aug (i := 0) sc_dealt_parts.nd rfl (Or.inr rfl) (pe_ix (ix_listK (K := K) rfl) (pv 1) (pv 3) (fun _ _ => rfl)) ip_sub))))
      (pss_one (ps_setLc (i := 4) (own := [("at", 3)]) (g := gName 3) (by rfl) sc_dealt_parts.nd rfl rfl (sw_true rfl rfl rfl (by decide +kernel)) (pi_listK (K := K) rfl (pv 4)) (blkOk_by (own := [("at", 3)]) (N := N_dealt_parts) (sc := defScope s_dealt_parts) (by decide +kernel)) (fun _ _ _ _ _ => (pg_name (i := 3) sc_dealt_parts.nd rfl (Or.inl rfl))) (fun _ _ _ _ _ => (pts_one (pt_cmpR (op_notInK (K := K) rfl) (pv 3) (pv 7) (by rfl)))) (fun _ _ _ _ _ => (pv 3)))))))))
      (pss_one (ps_ret (pe_tupA (pa_cons pe_non (pa_cons (pv 5) pa_nil)))))))), ?_⟩
    -- rest = [at for at, weight in enumerate(weights) if weight > 0]
    refine ⟨_, rfl, W, _, rfl, hW, fun D hD => lcEq (K := K) (xs := ws.map V.int) (fun i => if decide (0 < wAt ws i) = true then some (.int (i : Int)) else none) hD hW (by rw [List.length_map]; omega) (fun i x T H2 Kt Kf hx s2 gT q => ?_) (fun H2 s2 g2 => ?_)⟩
    · have hi : i < ws.length := by have := (List.getElem?_eq_some_iff.mp hx).1; rw [List.length_map] at this; exact this
      have ex : x = V.int (wAt ws i) := Option.some.inj (hx.symm.trans (int_at hi))
      subst ex
      refine ⟨_, _, rfl, sqT gT, rfl, _, _, rfl, _, _, rfl, rfl, rfl, _, rfl, _, _, rfl, rfl, _, rfl, ite2 (fun e => ?_) (fun e => ?_)⟩
      · refine ⟨_, rfl, q.yes _ _ (Same.refl _) ?_⟩
        rw [if_pos e]
      · refine q.no _ (Same.refl _) ?_
        rw [if_neg e]
    rw [List.length_map, lcYs_range ws.length (fun i => decide (0 < wAt ws i)) _ (fun i _ => rfl)] at g2
    -- found = [0] * len(weights)
    tm_at "rds"
    intro L0 H3 n3 s3 g3
    tm_at "rds"
    refine ⟨_, _, _, rfl, rfl, g3, by rw [List.length_map]; omega, by rw [List.length_map]; omega, by rw [List.length_map]; exact Nat.le_of_lt (small1000 (by simp; omega)), ?_⟩
    intro F H4 n4 s4 g4
    have eF : (List.replicate (((ws.map V.int).length : Int)).toNat [V.int 0]).flatten = (List.replicate ws.length (0 : Int)).map V.int := by
      rw [List.length_map, Int.toNat_natCast]; exact rep_zero _
    rw [eF] at g4
    have sH : Same H H4 := ((s2.trans s3).trans s4)
    have nF : H F = none := by tm_at "fr"
    -- while rest != []
    refine ⟨fun m σ H' => ∃ (p : Nat → Bool) (T : Int) (f : List Int) (R : Addr) (v3 v6 v7 v8 v9 v10 : Option V), σ = [some (.int T), some (.ref C), some (.ref W), v3, some (.ref R), some (.ref F), v6, v7, v8, v9, v10] ∧ Same H H' ∧
        H' R = some (.lst (natsV ((List.range ws.length).filter p))) ∧ R ≠ F ∧ H' F = some (.lst (f.map V.int)) ∧ DI ws.length (wAt ws) (cAt cs) total p T f ∧ T ≤ total ∧ m = ((List.range ws.length).filter p).length,
      ⟨_, _, total, _, D, _, _, _, _, _, _, rfl, sH, s4 _ _ (s3 _ _ g2), (ne_of_none (s3 _ _ g2) n4), g4, DI.start T0, Int.le_refl _, rfl⟩, ?_⟩
    rintro m σ H5 ⟨p, T, f, R, v3, v6, v7, v8, v9, v10, rfl, s5, gR, hRF, gF, di, hT, rfl⟩
    have Tn := di.tn
    refine ⟨_, rfl, Nat.zero_le _, fun E0 H6 n6 s6 g6 => ⟨R, E0, natI ((List.range ws.length).filter p), [], rfl, rfl, ?_, sqL g6, _, rfl, ?_⟩⟩
    · rw [natsV_eq]; exact sqL (s6 _ _ gR)
    by_cases he : (List.range ws.length).filter p = []
    · -- nobody is left
      have e : (!decide (natI ((List.range ws.length).filter p) = [])) = false := by rw [decide_eq_true (natI_nil.mpr he)]; rfl
      rw [e]
      refine iteF ?_
      tm_at "rds"
      intro P7 H7 n7 s7 g7
      exact k P7 F none .non f H7 (by tm_at "sm") (by tm_at "fr") nF g7 (by tm_at "hp") rfl (fun t b e => by cases e) (di.fin0 he)
    have e : (!decide (natI ((List.range ws.length).filter p) = [])) = true := by rw [decide_eq_false (fun z => he (natI_nil.mp z))]; rfl
    rw [e]
    refine iteT ⟨_, fun _ _ h => h, ?_⟩
    have hnd : ((List.range ws.length).filter p).Nodup := List.Pairwise.filter _ List.nodup_range
    generalize hrest : (List.range ws.length).filter p = rest at *
    have hin : ∀ i ∈ rest, i < ws.length ∧ p i = true := fun i hi => by
      rw [← hrest] at hi
      exact ⟨List.mem_range.mp (List.mem_filter.mp hi).1, (List.mem_filter.mp hi).2⟩
    have hrl : rest.length ≤ ws.length := by
      rw [← hrest]
      have := List.length_filter_le p (List.range ws.length)
      rw [List.length_range] at this
      exact this
    -- whole
    have gR6 : H6 R = some (.lst (natsV rest)) := s6 _ _ gR
    refine ⟨_, rfl, _, rfl, ⟨_, sqL gR6⟩, fun D7 hD7 => lcLq (K := K) (xs := natsV rest) (fun i => some (.int (wAt ws (rest.getD i 0)))) hD7 (sqL gR6) (by rw [List.length_map]; omega) (fun i x H7 Kt Kf hx s7 q => ?_) (fun H7 s7 g7 => ?_)⟩
    · obtain ⟨c, hc, rfl⟩ := nat_of_map hx
      have hcl := (hin c (List.mem_of_getElem? hc)).1
      tm_at "rds"
      refine ⟨_, _, _, _, rfl, rfl, ((s5.trans s6).trans s7).seq hW, atI_nat (int_at hcl), q.yes _ _ (Same.refl _) ?_⟩
      show some (V.int (wAt ws (rest.getD i 0))) = some (V.int (wAt ws c))
      rw [List.getD_eq_getElem?_getD, hc]; rfl
    have e7 : lcYs (natsV rest).length (fun i => some (V.int (wAt ws (rest.getD i 0)))) = (rest.map (wAt ws)).map V.int := by
      rw [List.length_map, lcYs_map (fun i : Nat => V.int (wAt ws i)) rest _ (fun i x hx => by rw [List.getD_eq_getElem?_getD, hx]; rfl), List.map_map]
      rfl
    rw [e7] at g7
    tm_at "rds"
    refine ⟨_, _, rfl, sqL g7, ?_⟩
    have eW : (rest.map (wAt ws)).sum = S (wAt ws) rest := rfl
    rw [eW]
    have hWb : S (wAt ws) rest ≤ 2 ^ 48 * 1000 := by
      have h1 := S_bound (f := wAt ws) (c := 2 ^ 48) (R := rest) fun i hi => Int.le_of_lt (wp i (hin i hi).1).2
      omega
    have hWp : 0 < S (wAt ws) rest := S_pos (fun i hi => di.pw i (hin i hi).1 (hin i hi).2) he
    generalize hWW : S (wAt ws) rest = Wh at *
    have s57 : Same H H7 := (s5.trans s6).trans s7
    -- full
    tm_at "rds"
    refine ⟨⟨_, sqL (s7 _ _ gR6)⟩, fun D8 hD8 => lcLq (K := K) (xs := natsV rest) (fun i => if heldB T Wh (wAt ws) (cAt cs) (rest.getD i 0) = true then some (.int (rest.getD i 0 : Nat)) else none) hD8 (sqL (s7 _ _ gR6)) (by rw [List.length_map]; omega) (fun i x H8 Kt Kf hx s8 q => ?_) (fun H8 s8 g8 => ?_)⟩
    · obtain ⟨c, hc, rfl⟩ := nat_of_map hx
      have hcl := (hin c (List.mem_of_getElem? hc)).1
      have hcl2 : c < cs.length := by omega
      have ed : rest.getD i 0 = c := by rw [List.getD_eq_getElem?_getD, hc]; rfl
      have sC : SqL K H8 C (cs.map optI) := (s57.trans s8).seq hC
      have sW : SqL K H8 W (ws.map V.int) := (s57.trans s8).seq hW
      tm_at "rds"
      refine ⟨_, _, _, _, rfl, rfl, sC, atI_nat (opt_at hcl2), ?_⟩
      tm_at "rds"
      cases hcc : cAt cs c with
      | none =>
        refine q.no _ (Same.refl _) ?_
        show (if heldB T Wh (wAt ws) (cAt cs) (rest.getD i 0) = true then _ else _) = none
        have eh : heldB T Wh (wAt ws) (cAt cs) c = false := by unfold heldB; rw [hcc]
        rw [ed, eh]
        rfl
      | some z =>
        refine ⟨_, rfl, _, rfl, ⟨_, _, _, _, rfl, rfl, sC, atI_nat (opt_at hcl2), ?_⟩⟩
        rw [hcc]
        refine ⟨_, rfl, _, _, rfl, rfl, .inr ⟨by omega, by omega⟩, _, rfl, _, rfl, _, rfl, _, _, _, _, rfl, rfl, sW, atI_nat (int_at hcl), _, _, rfl, rfl, .inl ⟨by omega, by omega⟩, _, _, rfl, rfl, _, rfl, ite2 (fun e => ?_) (fun e => ?_)⟩
        · refine ⟨_, rfl, q.yes _ _ (Same.refl _) ?_⟩
          show (if heldB T Wh (wAt ws) (cAt cs) (rest.getD i 0) = true then _ else _) = _
          rw [ed, heldB_iff hcc, if_pos e]
        · refine q.no _ (Same.refl _) ?_
          show (if heldB T Wh (wAt ws) (cAt cs) (rest.getD i 0) = true then _ else _) = none
          rw [ed, heldB_iff hcc, if_neg e]
    have e8 : lcYs (natsV rest).length (fun i => if heldB T Wh (wAt ws) (cAt cs) (rest.getD i 0) = true then some (V.int (rest.getD i 0 : Nat)) else none) = natsV (rest.filter (heldB T Wh (wAt ws) (cAt cs))) := by
      rw [List.length_map, lcYs_filter (heldB T Wh (wAt ws) (cAt cs)) (fun i : Nat => V.int (i : Int)) rest _ (fun i x hx => by rw [List.getD_eq_getElem?_getD, hx]; rfl)]
    rw [e8] at g8
    -- if full == []
    tm_at "rds"
    intro E9 H9 n9 s9 g9
    refine ⟨D8, E9, natI (rest.filter (heldB T Wh (wAt ws) (cAt cs))), [], rfl, rfl, ?_, sqL g9, _, rfl, ?_⟩
    · rw [natsV_eq]; exact sqL (s9 _ _ g8)
    have s59 : Same H H9 := (s57.trans s8).trans s9
    have gF9 : H9 F = some (.lst (f.map V.int)) := s9 _ _ (s8 _ _ (s7 _ _ (s6 _ _ gF)))
    have gR9 : H9 R = some (.lst (natsV rest)) := s9 _ _ (s8 _ _ (s7 _ _ gR6))
    have gD9 : H9 D8 = some (.lst (natsV (rest.filter (heldB T Wh (wAt ws) (cAt cs))))) := s9 _ _ g8
    refine ite2 (fun ef => ?_) (fun ef => ?_)
    · -- the level
      have hfull : rest.filter (heldB T Wh (wAt ws) (cAt cs)) = [] := natI_nil.mp (of_decide_eq_true ef)
      have hg0 : 0 < Int.gcd T Wh := Int.gcd_pos_of_ne_zero_right _ (by omega)
      tm_at "rds"
      intro Lv H10 n10 s10 g10
      have eT : T = T / (Int.gcd T Wh : Int) * (Int.gcd T Wh : Int) := (Int.ediv_mul_cancel (Int.gcd_dvd_left ..)).symm
      have eWh : Wh = Wh / (Int.gcd T Wh : Int) * (Int.gcd T Wh : Int) := (Int.ediv_mul_cancel (Int.gcd_dvd_right ..)).symm
      have hcop : Int.gcd (T / (Int.gcd T Wh : Int)) (Wh / (Int.gcd T Wh : Int)) = 1 := Int.gcd_ediv_gcd_ediv_gcd hg0
      have t0 : 0 ≤ T / (Int.gcd T Wh : Int) := Int.ediv_nonneg Tn (by omega)
      have t1 : T / (Int.gcd T Wh : Int) ≤ T := Int.ediv_le_self _ Tn
      have b1 : Wh / (Int.gcd T Wh : Int) ≤ Wh := Int.ediv_le_self _ (by omega)
      generalize T / (Int.gcd T Wh : Int) = tt at *
      generalize Wh / (Int.gcd T Wh : Int) = bb at *
      have hgi : (0 : Int) < (Int.gcd T Wh : Int) := by omega
      have b0 : 0 < bb := Int.pos_of_mul_pos_right (by rw [Int.mul_comm, ← eWh]; exact hWp) hgi
      have dfin : Dealt ws.length (wAt ws) (cAt cs) total (some (tt, bb)) (putAll f (runD tt bb (wAt ws) rest 0)) := by
        have := di.fin1 Wh (by rw [hrest]; exact hWW.symm) (by rw [hrest]; exact he) (by rw [hrest]; exact hfull) eT eWh hgi hcop
        rw [hrest] at this
        exact this
      tm_at "rds"
      refine ⟨Lv, W, R, tt, bb, ws, rest, rfl, sqT g10, (s59.trans s10).seq hW, sqL (s10 _ _ gR9), t0, by omega, b0, by omega, fun i hi => (hin i hi).1, hnd, by omega, fun d H11 s11 n11 g11 => ?_⟩
      have sHH : Same H H11 := (s59.trans s10).trans s11
      have gF11 : H11 F = some (.lst (f.map V.int)) := s11 _ _ (s10 _ _ gF9)
      have hFd : F ≠ d := ne_of_none (s10 _ _ gF9) n11
      have gL11 := s11 _ _ g10
      have hLd : Lv ≠ d := ne_of_none g10 n11
      have nd : H d = none := ((s59.trans s10)).free n11
      have nLv : H Lv = none := s59.free n10
      have hLF : Lv ≠ F := (ne_of_none gF9 n10).symm
      refine ⟨d, _, rfl, g11, fun o H12 b12 g12 => for_items (d := d) (o := o) (kvs := runK tt bb ws rest) (fun i σ H' => ∃ u3 u9 : Option V, σ = [some (.int T), some (.ref C), some (.ref W), u3, some (.ref R), some (.ref F), some (.int Wh), some (.ref D8), some (.ref Lv), u9, v10] ∧
          Same H H' ∧ H' d = some (.frz o (.dK (runK tt bb ws rest))) ∧ H' F = some (.lst ((putAll f ((runD tt bb (wAt ws) rest 0).take i)).map V.int)) ∧ H' Lv = some (.tup [.int tt, .int bb]))
        ⟨_, _, rfl, Same.mut' sHH b12 nd, g12, b12 _ _ hFd gF11, b12 _ _ hLd gL11⟩ (fun i σ H' ⟨_, _, _, _, q, _⟩ => q) ?_ ?_⟩
      · rintro i kk vv T0' σ H13 H14 hkv ⟨u3, u9, rfl, s13, g13, gF13, gL13⟩ nT sT gT
        obtain ⟨q, hq, eq⟩ : ∃ q, (runD tt bb (wAt ws) rest 0)[i]? = some q ∧ (kk, vv) = (Sum.inl (q.1 : Int), V.int q.2) := by
          unfold runK at hkv
          rw [List.getElem?_map] at hkv
          cases e : (runD tt bb (wAt ws) rest 0)[i]? with
          | none => rw [e] at hkv; cases hkv
          | some q => rw [e] at hkv; exact ⟨q, rfl, (Option.some.inj hkv).symm⟩
        obtain ⟨rfl, rfl⟩ := Prod.mk.inj eq
        have hq1 : q.1 < f.length := by
          have hm : q.1 ∈ (runD tt bb (wAt ws) rest 0).map (·.1) := List.mem_map.mpr ⟨q, List.mem_of_getElem? hq, rfl⟩
          rw [runD_fst] at hm
          rw [di.len]
          exact (hin _ hm).1
        refine ⟨_, _, rfl, sqT gT, rfl, _, _, rfl, _, _, rfl, rfl, ?_⟩
        refine ⟨_, rfl, _, rfl, _, rfl, F, _, _, q.1, rfl, rfl, sT _ _ gF13, ixN_nat (by rw [List.length_map, putAll_len]; exact hq1), fun H15 b15 g15 => ?_⟩
        refine ⟨_, _, rfl, Same.mut' (s13.trans sT) b15 nF, b15 _ _ hFd.symm (sT _ _ g13), ?_, b15 _ _ hLF (sT _ _ gL13)⟩
        rw [g15, putAll_take hq, map_set V.int]
      · rintro σ H13 ⟨u3, u9, rfl, s13, g13, gF13, gL13⟩
        rw [List.take_of_length_le (by unfold runK; rw [List.length_map]; exact Nat.le_refl _)] at gF13
        tm_at "rds"
        intro P H14 n14 s14 g14
        exact k P F (some (tt, bb)) (.ref Lv) _ H14 (s13.trans s14) (s13.free n14) nF g14 (s14 _ _ gF13) ⟨Lv, rfl, s14 _ _ gL13⟩ (fun t b e => by cases e; exact ⟨by omega, by omega⟩) dfin
    · -- some are held
      generalize hfl : rest.filter (heldB T Wh (wAt ws) (cAt cs)) = full at *
      have hne : full ≠ [] := fun z => ef (decide_eq_true (natI_nil.mpr z))
      have mful : ∀ i ∈ full, i ∈ rest ∧ heldB T Wh (wAt ws) (cAt cs) i = true := fun i hi => by
        rw [← hfl] at hi
        exact List.mem_filter.mp hi
      have cful : ∀ i ∈ full, cAt cs i = some (capN (cAt cs) i) ∧ 0 ≤ capN (cAt cs) i := fun i hi => by
        obtain ⟨c, e, _⟩ := heldB_some (mful i hi).2
        have e2 : capN (cAt cs) i = c := by unfold capN; rw [e]; rfl
        rw [e2]
        exact ⟨e, hc0 c (cAt_mem e)⟩
      have dturn := di.turn Wh (by rw [hrest]; exact hWW.symm) (by rw [hrest]; exact he) full (by rw [hrest]; exact hfl.symm)
      have nD8 : H D8 = none := s57.free hD8
      have hDF : D8 ≠ F := (ne_of_none (s7 _ _ (s6 _ _ gF)) hD8).symm
      refine ⟨_, rfl, D8, rfl, ⟨_, sqL gD9⟩, for_list (K := K) (a := D8) (xs := natsV full) (fun i σ H' => ∃ u3 : Option V, σ = [some (.int (T - S (capN (cAt cs)) (full.take i))), some (.ref C), some (.ref W), u3, some (.ref R), some (.ref F), some (.int Wh), some (.ref D8), v8, v9, v10] ∧
          Same H H' ∧ H' D8 = some (.lst (natsV full)) ∧ H' R = some (.lst (natsV rest)) ∧ H' F = some (.lst ((putAll f ((full.map fun i => (i, capN (cAt cs) i)).take i)).map V.int)))
        ⟨_, by rw [List.take_zero, S_nil, Int.sub_zero]; rfl, s59, gD9, gR9, gF9⟩ (fun i σ H' _ ⟨_, _, _, q, _⟩ => sqL q) ?_ ?_⟩
      · rintro i y σ H10 hi ⟨u3, rfl, s10, g10, gR10, gF10⟩
        obtain ⟨c, hc, rfl⟩ := nat_of_map hi
        have hcf := List.mem_of_getElem? hc
        have hcl := (hin c (mful c hcf).1).1
        have hcl2 : c < cs.length := by omega
        obtain ⟨ec, c0⟩ := cful c hcf
        have sC : ∀ H', Same H H' → SqL K H' C (cs.map optI) := fun H' s => s.seq hC
        have hat : atI (cs.map optI) (c : Int) = some (.int (capN (cAt cs) c)) := by
          have := opt_at hcl2
          rw [ec] at this
          exact atI_nat this
        refine ⟨_, rfl, _, rfl, _, _, _, _, rfl, rfl, s10.seq hC, hat, ?_⟩
        refine ⟨_, rfl, _, rfl, F, _, _, c, rfl, rfl, gF10, ixN_nat (by rw [List.length_map, putAll_len, di.len]; exact hcl), fun H11 b11 g11 => ?_⟩
        have s11 : Same H H11 := Same.mut' s10 b11 nF
        refine ⟨_, rfl, _, rfl, _, rfl, _, _, _, _, rfl, rfl, s11.seq hC, hat, _, _, rfl, rfl, ?_⟩
        have e1 : full.take (i + 1) = full.take i ++ [c] := by rw [List.take_add_one, hc]; rfl
        refine ⟨some (.int (c : Int)), ?_, s11, b11 _ _ hDF g10, b11 _ _ hRF gR10, ?_⟩
        · rw [e1, S_append, S_cons, S_nil, Int.add_zero, ← Int.sub_sub]; rfl
        · have hq : (full.map fun i => (i, capN (cAt cs) i))[i]? = some (c, capN (cAt cs) c) := by rw [List.getElem?_map, hc]; rfl
          rw [g11, putAll_take hq, map_set V.int]
      · rintro σ H10 ⟨u3, rfl, s10, g10, gR10, gF10⟩
        rw [List.length_map, List.take_length]
        rw [List.length_map, List.take_of_length_le (by rw [List.length_map]; exact Nat.le_refl _)] at gF10
        -- rest = [at for at in rest if at not in full]
        refine ⟨_, rfl, _, rfl, ⟨_, sqL gR10⟩, fun D11 hD11 => lcLq (K := K) (xs := natsV rest) (fun i => if (!decide (rest.getD i 0 ∈ full)) = true then some (.int (rest.getD i 0 : Nat)) else none) hD11 (sqL gR10) (by rw [List.length_map]; omega) (fun i x H11 Kt Kf hx s11 q => ?_) (fun H11 s11 g11 => ?_)⟩
        · obtain ⟨c, hc, rfl⟩ := nat_of_map hx
          have ed : rest.getD i 0 = c := by rw [List.getD_eq_getElem?_getD, hc]; rfl
          tm_at "rds"
          refine ⟨_, _, rfl, .inl (sqL (s11 _ _ g10)), rfl, flat_nats full, _, rfl, ?_⟩
          rw [inV_nats]
          refine ite2 (fun e => ?_) (fun e => ?_)
          · refine ⟨_, rfl, q.yes _ _ (Same.refl _) ?_⟩
            show (if (!decide (rest.getD i 0 ∈ full)) = true then _ else _) = _
            have e' : (!decide (c ∈ full)) = true := e
            rw [ed, if_pos e']
          · refine q.no _ (Same.refl _) ?_
            have e' : ¬ (!decide (c ∈ full)) = true := e
            show (if (!decide (rest.getD i 0 ∈ full)) = true then _ else _) = none
            rw [ed, if_neg e']
        have e11 : lcYs (natsV rest).length (fun i => if (!decide (rest.getD i 0 ∈ full)) = true then some (V.int (rest.getD i 0 : Nat)) else none) = natsV ((List.range ws.length).filter fun i => p i && !heldB T Wh (wAt ws) (cAt cs) i) := by
          rw [List.length_map, lcYs_filter (fun i : Nat => !decide (i ∈ full)) (fun i : Nat => V.int (i : Int)) rest _ (fun i x hx => by rw [List.getD_eq_getElem?_getD, hx]; rfl)]
          rw [← filter_not_mem, hrest, hfl]
        rw [e11] at g11
        have hS : 0 ≤ S (capN (cAt cs)) full := S_nonneg fun i hi => (cful i hi).2
        refine ⟨((List.range ws.length).filter fun i => p i && !heldB T Wh (wAt ws) (cAt cs) i).length, ?_, _, T - S (capN (cAt cs)) full, putAll f (full.map fun i => (i, capN (cAt cs) i)), D11, u3, some (.int Wh), some (.ref D8), v8, v9, v10, rfl, s10.trans s11, g11, (ne_of_none gF10 hD11).symm, s11 _ _ gF10, dturn, by omega, rfl⟩
        rw [← filter_not_mem, hrest, hfl]
        obtain ⟨j, hj⟩ : ∃ j, j ∈ full := List.exists_mem_of_ne_nil full hne
        exact filter_lt (mful j hj).1 (by rw [decide_eq_true hj]; rfl)
end
end My
namespace My
open PySem PySem.Spec PyProof.Rows L2
section
variable {P : Program} {w : World} {K : PySem.W.Frag} {mg : Str → Option Value} {base : Heap}
def sp_levelled_parts (K : PySem.W.Frag) : Sp := fun vs H Q _ => ∃ (C W : Addr) (total : Int) (fl : List Int) (ws : List Int), vs = [.int total, .ref C, .ref W] ∧ H C = some (.lst (fl.map .int)) ∧ H W = some (.lst (ws.map .int)) ∧
  fl.length = ws.length ∧ ws.length ≤ 1000 ∧ 0 ≤ total ∧ total < 2 ^ 64 ∧ (∀ z ∈ fl, 0 ≤ z) ∧ (∀ z ∈ ws, 0 ≤ z ∧ z < 2 ^ 48) ∧
  ∀ p q lv lvv fs H', Same H H' → H p = none → H q = none → H' p = some (.tup [lvv, .ref q]) → H' q = some (.lst (fs.map .int)) → LvAt H' lv lvv → (∀ t b, lv = some (t, b) → t < 2 ^ 64 ∧ b < 2 ^ 64) → Lev ws.length (wAt ws) (wAt fl) total lv fs → Q (.ref p) H'
theorem ok_levelled_parts (T : Tx K mg) : FnOk P w K mg base CX0 2 T.d_levelled_parts.f T.d_levelled_parts.fd ["total", "floors", "weights"] (sp_levelled_parts K) := by
  refine T.d_levelled_parts.F.ok sc_levelled_parts (fun vs H Q E h => ?_) (fun cdv A outer s H vs Q E hr h => ?_)
  · obtain ⟨C, W, total, fl, ws, rfl, _⟩ := h
    rfl
  · obtain ⟨C, W, total, fl, ws, rfl, hC, hW, hlen, hn, T0, T1, hc0, hw0, k⟩ := h
    have wp : ∀ i, i < ws.length → 0 ≤ wAt ws i ∧ wAt ws i < 2 ^ 48 := fun i hi => hw0 _ (wAt_mem hi)
    have fp : ∀ i, i < ws.length → 0 ≤ wAt fl i := fun i hi => hc0 _ (wAt_mem (by omega))
    refine ⟨_, (pss_cons (ps_setLc (i := 4) (own := [("at", 3), ("weight", 10)]) (g := gTup K 2 (gCons (gName 3) (gCons (gName 10) gNil))) (by rfl) sc_levelled_parts.nd rfl rfl (sw_true rfl rfl rfl (by decide +kernel)) (pi_enumK (K := K) rfl (by rfl) T.b_enumerate (pa_cons (pv 2) pa_nil)) (blkOk_by (own := [("at", 3), ("weight", 10)]) (N := N_levelled_parts) (sc := defScope s_levelled_parts) (by decide +kernel)) (fun _ _ _ _ _ => (pg_tup (by rfl) (pgs_cons (pg_name (i := 3) sc_levelled_parts.nd rfl (Or.inl rfl)) (pgs_cons (pg_name (i := 10) sc_levelled_parts.nd rfl (Or.inl rfl)) pgs_nil)))) (fun _ _ _ _ _ => (pts_one (pt_cmpR op_gt (pv 10) pe_int (nomark _)))) (fun _ _ _ _ _ => (pv 3)))
      (pss_cons (ps_set (i := 5) sc_levelled_parts.nd rfl (Or.inl rfl) (pe_callTy (call_listK (K := K) rfl) (by rfl) T.b_list (by decide +kernel) (pa_cons (pv 1) pa_nil)))
      (pss_cons (ps_if (PW.pt (pw_or (pt_cmpR (op_eqIsK (K := K) hr.units rfl) (pv 4) (pe_lstA pa_nil) (nomark _)) (pw_or1 (pt_cmpR op_ge (pe_callB (cr_sumK (K := K) rfl rfl) (by rfl) T.b_sum (by decide +kernel) (pa_cons (pv 1) pa_nil)) (pv 0) (nomark _)))))
      (pss_one (ps_ret (pe_tupA (pa_cons pe_non (pa_cons (pv 5) pa_nil)))))
      pss_nil)
      (pss_cons (ps_aug (i := 0) sc_levelled_parts.nd rfl (Or.inr rfl) (pe_callB (cr_sumK (K := K) rfl rfl) (by rfl) T.b_sum (by decide +kernel) (pa_cons (pe_lc (own := [("floor", 11), ("weight", 10)]) (g := gTup K 2 (gCons (gName 11) (gCons (gName 10) gNil))) (by rfl) sc_levelled_parts.nd (pi_zipK (K := K) rfl (by rfl) T.b_zip (pa_cons (pv 1) (pa_cons (pv 2) pa_nil))) (blkOk_by (own := [("floor", 11), ("weight", 10)]) (N := N_levelled_parts) (sc := defScope s_levelled_parts) (by decide +kernel)) (fun _ _ _ _ _ => (pg_tup (by rfl) (pgs_cons (pg_name (i := 11) sc_levelled_parts.nd rfl (Or.inl rfl)) (pgs_cons (pg_name (i := 10) sc_levelled_parts.nd rfl (Or.inl rfl)) pgs_nil)))) (fun _ _ _ _ _ => (pts_one (pt_cmpR op_eq (pv 10) pe_int (nomark _)))) (fun _ _ _ _ _ => (pv 11))) pa_nil)) ip_sub)
      (pss_cons (ps_set (i := 6) sc_levelled_parts.nd rfl (Or.inr rfl) (pv 4))
      (pss_cons (ps_while PassesOwn.never (pt_cmpR (op_neIsK (K := K) hr.units rfl) (pv 6) (pe_lstA pa_nil) (nomark _))
      (pss_cons (ps_set (i := 7) sc_levelled_parts.nd rfl (Or.inr rfl) (pe_callB (cr_sumK (K := K) rfl rfl) (by rfl) T.b_sum (by decide +kernel) (pa_cons (pe_lc (own := [("at", 3)]) (g := gName 3) (by rfl) sc_levelled_parts.nd (pi_listK (K := K) rfl (pv 4)) (blkOk_by (own := [("at", 3)]) (N := N_levelled_parts) (sc := defScope s_levelled_parts) (by decide +kernel)) (fun _ _ _ _ _ => (pg_name (i := 3) sc_levelled_parts.nd rfl (Or.inl rfl))) (fun _ _ _ _ _ => pts_nil) (fun _ _ _ _ _ => (pe_ix (ix_listK (K := K) rfl) (pv 2) (pv 3) (fun _ _ => rfl)))) pa_nil)))
      (pss_cons (ps_set (i := 6) sc_levelled_parts.nd rfl (Or.inr rfl) (pe_lc (own := [("at", 3)]) (g := gName 3) (by rfl) sc_levelled_parts.nd (pi_listK (K := K) rfl (pv 4)) (blkOk_by (own := [("at", 3)]) (N := N_levelled_parts) (sc := defScope s_levelled_parts) (by decide +kernel)) (fun _ _ _ _ _ => (pg_name (i := 3) sc_levelled_parts.nd rfl (Or.inl rfl))) (fun _ _ _ _ _ => (pts_one (pt_cmpR op_ge (pe_op op_mul (pe_ix (ix_listK (K := K) rfl) (pv 1) (pv 3) (fun _ _ => rfl)) (pv 7)) (pe_op op_mul (pv 0) (pe_ix (ix_listK (K := K) rfl) (pv 2) (pv 3) (fun _ _ => rfl))) (nomark _)))) (fun _ _ _ _ _ => (pv 3))))
      (pss_cons (ps_setLc (i := 4) (own := [("at", 3)]) (g := gName 3) (by rfl) sc_levelled_parts.nd rfl rfl (sw_true rfl rfl rfl (by decide +kernel)) (pi_listK (K := K) rfl (pv 4)) (blkOk_by (own := [("at", 3)]) (N := N_levelled_parts) (sc := defScope s_levelled_parts) (by decide +kernel)) (fun _ _ _ _ _ => (pg_name (i := 3) sc_levelled_parts.nd rfl (Or.inl rfl))) (fun _ _ _ _ _ => (pts_one (pt_cmpR (op_notInK (K := K) rfl) (pv 3) (pv 6) (by rfl)))) (fun _ _ _ _ _ => (pv 3)))
      (pss_one (ps_aug (i := 0) sc_levelled_parts.nd rfl (Or.inr rfl) (pe_callB (cr_sumK (K := K) rfl rfl) (by rfl) T.b_sum (by decide +kernel) (pa_cons (pe_lc (own := [("at", 3)]) (g := gName 3) (by rfl) sc_levelled_parts.nd (pi_listK (K := K) rfl (pv 6)) (blkOk_by (own := [("at", 3)]) (N := N_levelled_parts) (sc := defScope s_levelled_parts) (by decide +kernel)) (fun _ _ _ _ _ => (pg_name (i := 3) sc_levelled_parts.nd rfl (Or.inl rfl))) (fun _ _ _ _ _ => pts_nil) (fun _ _ _ _ _ => (pe_ix (ix_listK (K := K) rfl) (pv 1) (pv 3) (fun _ _ => rfl)))) pa_nil)) ip_sub))))))
      (pss_cons (ps_set (i := 8) sc_levelled_parts.nd rfl (Or.inl rfl) (pe_call (ok_lowest T) (hr.mono (by decide)) (by rfl) T.d_lowest.g T.d_lowest.F.kp T.d_lowest.b .nil pass0 (pa_cons (pv 0) (pa_cons (pv 7) pa_nil))))
      (pss_cons (ps_for PassesOwn.never (by rfl) (pi_itemsN (pe_call (ok_running T) (hr.mono (by decide)) (by rfl) T.d_running.g T.d_running.F.kp T.d_running.b .nil pass0 (pa_cons (pv 8) (pa_cons (pv 2) (pa_cons (pv 4) pa_nil))))) (pg_tup (by rfl) (pgs_cons (pg_name (i := 3) sc_levelled_parts.nd rfl (Or.inl rfl)) (pgs_cons (pg_name (i := 9) sc_levelled_parts.nd rfl (Or.inl rfl)) pgs_nil)))
      (pss_one (ps_asg (pv 9) (pg_sub (pv 5) (pv 3) set_listA))))
      (pss_one (ps_ret (pe_tupA (pa_cons (pv 8) (pa_cons (pv 5) pa_nil))))))))))))), ?_⟩
    -- rest = [at for at, weight in enumerate(weights) if weight > 0]
    refine ⟨_, rfl, W, _, rfl, sqL hW, fun D hD => lcEq (K := K) (xs := ws.map V.int) (fun i => if decide (0 < wAt ws i) = true then some (.int (i : Int)) else none) hD (sqL hW) (by rw [List.length_map]; omega) (fun i x T H2 Kt Kf hx s2 gT q => ?_) (fun H2 s2 g2 => ?_)⟩
    · have hi : i < ws.length := by have := (List.getElem?_eq_some_iff.mp hx).1; rw [List.length_map] at this; exact this
      have ex : x = V.int (wAt ws i) := Option.some.inj (hx.symm.trans (int_at hi))
      subst ex
      refine ⟨_, _, rfl, sqT gT, rfl, _, _, rfl, _, _, rfl, rfl, rfl, _, rfl, _, _, rfl, rfl, _, rfl, ite2 (fun e => ?_) (fun e => ?_)⟩
      · refine ⟨_, rfl, q.yes _ _ (Same.refl _) ?_⟩
        rw [if_pos e]
      · refine q.no _ (Same.refl _) ?_
        rw [if_neg e]
    rw [List.length_map, lcYs_range ws.length (fun i => decide (0 < wAt ws i)) _ (fun i _ => rfl)] at g2
    generalize hR0 : (List.range ws.length).filter (fun i => decide (0 < wAt ws i)) = R0 at g2
    -- found = list(floors)
    tm_at "rzs"
    refine ⟨C, _, rfl, .inl (sqL (s2 _ _ hC)), fun F H3 n3 s3 g3 => ?_⟩
    tm_at "rzs"
    intro E4 H4 n4 s4 g4
    have gD4 := s4 _ _ (s3 _ _ g2)
    refine ⟨D, E4, natI R0, [], rfl, rfl, by rw [natsV_eq]; exact sqL gD4, sqL g4, ?_⟩
    tm_at "rzs"
    have s24 := (s2.trans s3).trans s4
    have nF : H F = none := s2.free n3
    have gF4 := s4 _ _ g3
    have Sfl : S (wAt fl) (List.range ws.length) = fl.sum := by rw [← hlen]; exact S_range fl
    have at0 : ∀ i, i < ws.length → fl[i]? = some (wAt fl i) := fun i hi => by
      unfold wAt
      rw [List.getD_eq_getElem?_getD, List.getElem?_eq_getElem (by omega)]; rfl
    have done : (S (wAt ws) (List.range ws.length) = 0 ∨ total ≤ S (wAt fl) (List.range ws.length)) → ∀ p H', Same H4 H' → H4 p = none → H' p = some (.tup [.non, .ref F]) → Q (.ref p) H' := fun hz p H' s np g => k p F none .non fl H' (s24.trans s) (s24.free np) nF g (s _ _ gF4) rfl (fun t b e => by cases e) ⟨hlen, fun _ => ⟨at0, hz⟩, fun t b e => by cases e⟩
    by_cases hR0n : R0 = []
    · have hz : S (wAt ws) (List.range ws.length) = 0 := by
        have h1 : S (wAt ws) (List.range ws.length) = S (fun _ => 0 * 0) (List.range ws.length) := S_congr fun i hi => by
          have hi' := List.mem_range.mp hi
          rw [hR0n] at hR0
          have h2 := List.filter_eq_nil_iff.mp hR0 i hi
          have h3 : ¬ 0 < wAt ws i := fun h => h2 (decide_eq_true h)
          have := (wp i hi').1
          omega
        rw [h1, S_mul, Int.zero_mul]
      refine iteT' (decide_eq_true (natI_nil.mpr hR0n)) ?_
      tm_at "rzs"
      intro p H5 n5 s5 g5
      exact done (.inl hz) p H5 s5 n5 g5
    refine iteF' (decide_eq_false fun e => hR0n (natI_nil.mp e)) ?_
    tm_at "rzs"
    refine ⟨C, fl, rfl, sqL (s24 _ _ hC), ?_⟩
    tm_at "rzs"
    by_cases hge : total ≤ fl.sum
    · refine iteT' (decide_eq_true hge) ?_
      tm_at "rzs"
      intro p H5 n5 s5 g5
      exact done (.inr (by rw [Sfl]; exact hge)) p H5 s5 n5 g5
    refine iteF' (decide_eq_false hge) ?_
    have hno : ¬ (S (wAt ws) (List.range ws.length) = 0 ∨ total ≤ S (wAt fl) (List.range ws.length)) := by
      rintro (h | h)
      · have h1 := S_split (wAt ws) (fun i => decide (0 < wAt ws i)) (List.range ws.length)
        rw [hR0] at h1
        have h2 : 0 < S (wAt ws) R0 := S_pos (fun i hi => by rw [← hR0] at hi; exact of_decide_eq_true (List.mem_filter.mp hi).2) hR0n
        have h3 : 0 ≤ S (wAt ws) ((List.range ws.length).filter fun i => !decide (0 < wAt ws i)) := S_nonneg fun i hi => (wp i (List.mem_range.mp (List.mem_filter.mp hi).1)).1
        omega
      · rw [Sfl] at h; omega
    have hst := LI.start (n := ws.length) (w := wAt ws) (fl := wAt fl) (total := total) (fun i hi => (wp i hi).1) (by rw [hR0]; exact hR0n) (by rw [Sfl]; omega)
    tm_at "rzs"
    refine ⟨C, W, _, _, rfl, sqL (s24 _ _ hC), sqL (s24 _ _ hW), fun D5 hD5 => lcZq (K := K) (xs := fl.map V.int) (zs := ws.map V.int) (fun i => if decide (wAt ws i = 0) = true then some (.int (wAt fl i)) else none) (by rw [List.length_map, List.length_map, hlen]) hD5 (sqL (s24 _ _ hC)) (sqL (s24 _ _ hW)) (by rw [List.length_map]; omega) (fun i x z T H6 Kt Kf hx hz s6 gT qq => ?_) (fun H6 s6 g6 => ?_)⟩
    · have hi : i < ws.length := by
        have := (List.getElem?_eq_some_iff.mp hz).1
        rw [List.length_map] at this; exact this
      rw [int_at hi] at hz
      rw [int_at (by omega)] at hx
      cases hz
      cases hx
      refine ⟨_, _, rfl, sqT gT, rfl, ?_⟩
      tm_at "rzs"
      refine ite2 (fun e => ?_) (fun e => ?_)
      · tm_at "rzs"
        exact qq.yes _ _ (Same.refl _) (if_pos (decide_eq_true (V.int.inj (of_decide_eq_true e))))
      · exact qq.no _ (Same.refl _) (if_neg fun h => e (decide_eq_true (by rw [of_decide_eq_true h])))
    have e6 : lcYs (fl.map V.int).length (fun i => if decide (wAt ws i = 0) = true then some (V.int (wAt fl i)) else none) = (((List.range ws.length).filter fun i => decide (wAt ws i = 0)).map (wAt fl)).map V.int := by
      have := lcYs_filter (fun i => decide (wAt ws i = 0)) (fun i => V.int (wAt fl i)) (List.range ws.length) (fun i => if decide (wAt ws i = 0) = true then some (V.int (wAt fl i)) else none) (fun i x hx => by
        have hi : i < ws.length := by have := (List.getElem?_eq_some_iff.mp hx).1; rw [List.length_range] at this; exact this
        rw [List.getElem?_range hi] at hx
        cases hx; rfl)
      rw [List.length_range] at this
      rw [List.length_map, hlen, this, List.map_map]; rfl
    rw [e6] at g6
    tm_at "rzs"
    refine ⟨D5, _, rfl, sqL g6, ?_⟩
    have eS0 : (((List.range ws.length).filter fun i => decide (wAt ws i = 0)).map (wAt fl)).sum = S (wAt fl) ((List.range ws.length).filter fun i => decide (wAt ws i = 0)) := rfl
    rw [eS0]
    obtain ⟨TT, hTT⟩ : ∃ TT, TT = total - S (wAt fl) ((List.range ws.length).filter fun i => decide (wAt ws i = 0)) := ⟨_, rfl⟩
    have hT0 : TT ≤ total := by
      have : 0 ≤ S (wAt fl) ((List.range ws.length).filter fun i => decide (wAt ws i = 0)) := S_nonneg fun i hi => fp i (List.mem_range.mp (List.mem_filter.mp hi).1)
      omega
    rw [← hTT] at hst
    have gD6 := s6 _ _ gD4
    tm_at "rzs"
    refine ⟨fun m σ H' => ∃ (p : Nat → Bool) (T : Int) (hs : List Nat) (R Hi : Addr) (v3 v7 v8 v9 v10 v11 : Option V), σ = [some (.int T), some (.ref C), some (.ref W), v3, some (.ref R), some (.ref F), some (.ref Hi), v7, v8, v9, v10, v11] ∧ Same H H' ∧
        H' R = some (.lst (natsV ((List.range ws.length).filter p))) ∧ H' Hi = some (.lst (natsV hs)) ∧ H' F = some (.lst (fl.map V.int)) ∧ LI ws.length (wAt ws) (wAt fl) total p T ∧ T ≤ total ∧
        (hs = [] → v7 = some (.int (S (wAt ws) ((List.range ws.length).filter p))) ∧ ((List.range ws.length).filter p).filter (highB T (S (wAt ws) ((List.range ws.length).filter p)) (wAt ws) (wAt fl)) = []) ∧
        m = 2 * ((List.range ws.length).filter p).length + (if hs = [] then 0 else 1),
      ⟨_, (fun i => decide (0 < wAt ws i)), TT, R0, D, D, none, none, none, none, none, none, by rw [hTT]; rfl, s24.trans s6, by rw [hR0]; exact gD6, gD6, s6 _ _ gF4, hst, hT0, fun e => absurd e hR0n, rfl⟩, ?_⟩
    rintro m σ H7 ⟨p, T, hs, R, Hi, v3, v7, v8, v9, v10, v11, rfl, s7, gR, gHi, gF, li, hT, hhs, rfl⟩
    have F0 : 0 ≤ S (wAt fl) ((List.range ws.length).filter p) := S_nonneg fun i hi => fp i (List.mem_range.mp (List.mem_filter.mp hi).1)
    have Tn := li.lt
    have hnd : ((List.range ws.length).filter p).Nodup := List.Pairwise.filter _ List.nodup_range
    have hWp := li.W0
    have hne := li.ne
    generalize hrest : (List.range ws.length).filter p = rest at *
    have hin : ∀ i ∈ rest, i < ws.length ∧ p i = true := fun i hi => by
      rw [← hrest] at hi
      exact ⟨List.mem_range.mp (List.mem_filter.mp hi).1, (List.mem_filter.mp hi).2⟩
    have hrl : rest.length ≤ ws.length := by
      rw [← hrest]
      have := List.length_filter_le p (List.range ws.length)
      rw [List.length_range] at this
      exact this
    have hWb : S (wAt ws) rest ≤ 2 ^ 48 * 1000 := by
      have h1 := S_bound (f := wAt ws) (c := 2 ^ 48) (R := rest) fun i hi => Int.le_of_lt (wp i (hin i hi).1).2
      omega
    refine ⟨_, rfl, Nat.zero_le _, fun E0 H8 n8 s8 g8 => ⟨Hi, E0, natI hs, [], rfl, rfl, by rw [natsV_eq]; exact sqL (s8 _ _ gHi), sqL g8, _, rfl, ?_⟩⟩
    have s18 : Same H H8 := s7.trans s8
    have gR8 := s8 _ _ gR
    by_cases hhe : hs = []
    · -- nobody is high: the level
      obtain ⟨rfl, hfil⟩ := hhs hhe
      refine iteF' (by rw [decide_eq_true (natI_nil.mpr hhe)]; rfl) ?_
      generalize hWW : S (wAt ws) rest = Wh at *
      have hg0 : 0 < Int.gcd T Wh := Int.gcd_pos_of_ne_zero_right _ (by omega)
      tm_at "rds"
      intro Lv H10 n10 s10 g10
      have eT : T = T / (Int.gcd T Wh : Int) * (Int.gcd T Wh : Int) := (Int.ediv_mul_cancel (Int.gcd_dvd_left ..)).symm
      have eWh : Wh = Wh / (Int.gcd T Wh : Int) * (Int.gcd T Wh : Int) := (Int.ediv_mul_cancel (Int.gcd_dvd_right ..)).symm
      have hcop : Int.gcd (T / (Int.gcd T Wh : Int)) (Wh / (Int.gcd T Wh : Int)) = 1 := Int.gcd_ediv_gcd_ediv_gcd hg0
      have t0 : 0 ≤ T / (Int.gcd T Wh : Int) := Int.ediv_nonneg (by omega) (by omega)
      have t1 : T / (Int.gcd T Wh : Int) ≤ T := Int.ediv_le_self _ (by omega)
      have b1 : Wh / (Int.gcd T Wh : Int) ≤ Wh := Int.ediv_le_self _ (by omega)
      generalize T / (Int.gcd T Wh : Int) = tt at *
      generalize Wh / (Int.gcd T Wh : Int) = bb at *
      have hgi : (0 : Int) < (Int.gcd T Wh : Int) := by omega
      have b0 : 0 < bb := Int.pos_of_mul_pos_right (by rw [Int.mul_comm, ← eWh]; exact hWp) hgi
      have dfin : Lev ws.length (wAt ws) (wAt fl) total (some (tt, bb)) (putAll fl (runD tt bb (wAt ws) rest 0)) := by
        have := li.fin fp (fun i hi => (wp i hi).1) Wh (by rw [hrest]; exact hWW.symm) (by rw [hrest]; exact hfil) eT eWh hgi hcop fl hlen at0 hno
        rw [hrest] at this
        exact this
      tm_at "rds"
      refine ⟨Lv, W, R, tt, bb, ws, rest, rfl, sqT g10, sqL (s10 _ _ (s18 _ _ hW)), sqL (s10 _ _ gR8), t0, by omega, b0, by omega, fun i hi => (hin i hi).1, hnd, by omega, fun d H11 s11 n11 g11 => ?_⟩
      have sHH : Same H H11 := (s18.trans s10).trans s11
      have gF10 : H10 F = some (.lst (fl.map V.int)) := s10 _ _ (s8 _ _ gF)
      have gF11 : H11 F = some (.lst (fl.map V.int)) := s11 _ _ gF10
      have hFd : F ≠ d := ne_of_none gF10 n11
      have gL11 := s11 _ _ g10
      have hLd : Lv ≠ d := ne_of_none g10 n11
      have nd : H d = none := (s18.trans s10).free n11
      have hLF : Lv ≠ F := (ne_of_none (s8 _ _ gF) n10).symm
      refine ⟨d, _, rfl, g11, fun o H12 b12 g12 => for_items (d := d) (o := o) (kvs := runK tt bb ws rest) (fun i σ H' => ∃ u3 u9 : Option V, σ = [some (.int T), some (.ref C), some (.ref W), u3, some (.ref R), some (.ref F), some (.ref Hi), some (.int Wh), some (.ref Lv), u9, v10, v11] ∧
          Same H H' ∧ H' d = some (.frz o (.dK (runK tt bb ws rest))) ∧ H' F = some (.lst ((putAll fl ((runD tt bb (wAt ws) rest 0).take i)).map V.int)) ∧ H' Lv = some (.tup [.int tt, .int bb]))
        ⟨_, _, rfl, Same.mut' sHH b12 nd, g12, b12 _ _ hFd gF11, b12 _ _ hLd gL11⟩ (fun i σ H' ⟨_, _, _, _, q, _⟩ => q) ?_ ?_⟩
      · rintro i kk vv T0' σ H13 H14 hkv ⟨u3, u9, rfl, s13, g13, gF13, gL13⟩ nT sT gT
        obtain ⟨q, hq, eq⟩ : ∃ q, (runD tt bb (wAt ws) rest 0)[i]? = some q ∧ (kk, vv) = (Sum.inl (q.1 : Int), V.int q.2) := by
          unfold runK at hkv
          rw [List.getElem?_map] at hkv
          cases e : (runD tt bb (wAt ws) rest 0)[i]? with
          | none => rw [e] at hkv; cases hkv
          | some q => rw [e] at hkv; exact ⟨q, rfl, (Option.some.inj hkv).symm⟩
        obtain ⟨rfl, rfl⟩ := Prod.mk.inj eq
        have hq1 : q.1 < fl.length := by
          have hm : q.1 ∈ (runD tt bb (wAt ws) rest 0).map (·.1) := List.mem_map.mpr ⟨q, List.mem_of_getElem? hq, rfl⟩
          rw [runD_fst] at hm
          rw [hlen]
          exact (hin _ hm).1
        refine ⟨_, _, rfl, sqT gT, rfl, _, _, rfl, _, _, rfl, rfl, ?_⟩
        refine ⟨_, rfl, _, rfl, _, rfl, F, _, _, q.1, rfl, rfl, sT _ _ gF13, ixN_nat (by rw [List.length_map, putAll_len]; exact hq1), fun H15 b15 g15 => ?_⟩
        refine ⟨_, _, rfl, Same.mut' (s13.trans sT) b15 nF, b15 _ _ hFd.symm (sT _ _ g13), ?_, b15 _ _ hLF (sT _ _ gL13)⟩
        rw [g15, putAll_take hq, map_set V.int]
      · rintro σ H13 ⟨u3, u9, rfl, s13, g13, gF13, gL13⟩
        rw [List.take_of_length_le (by unfold runK; rw [List.length_map]; exact Nat.le_refl _)] at gF13
        tm_at "rds"
        intro P H14 n14 s14 g14
        exact k P F (some (tt, bb)) (.ref Lv) _ H14 (s13.trans s14) (s13.free n14) nF g14 (s14 _ _ gF13) ⟨Lv, rfl, s14 _ _ gL13⟩ (fun t b e => by cases e; exact ⟨by omega, by omega⟩) dfin
    -- one more turn
    refine iteT' (by rw [decide_eq_false (fun z => hhe (natI_nil.mp z))]; rfl) ?_
    refine ⟨_, fun _ _ h => h, ?_⟩
    have hC8 := s18 _ _ hC
    have hW8 := s18 _ _ hW
    -- whole
    tm_at "rzs"
    refine ⟨⟨_, sqL gR8⟩, fun D9 hD9 => lcLq (K := K) (xs := natsV rest) (fun i => some (.int (wAt ws (rest.getD i 0)))) hD9 (sqL gR8) (by rw [List.length_map]; omega) (fun i x H9 Kt Kf hx s9 q => ?_) (fun H9 s9 g9 => ?_)⟩
    · obtain ⟨c, hc, rfl⟩ := nat_of_map hx
      have hcl := (hin c (List.mem_of_getElem? hc)).1
      tm_at "rzs"
      refine ⟨_, _, _, _, rfl, rfl, sqL (s9 _ _ hW8), atI_nat (int_at hcl), q.yes _ _ (Same.refl _) ?_⟩
      show some (V.int (wAt ws (rest.getD i 0))) = some (V.int (wAt ws c))
      rw [List.getD_eq_getElem?_getD, hc]; rfl
    have e9 : lcYs (natsV rest).length (fun i => some (V.int (wAt ws (rest.getD i 0)))) = (rest.map (wAt ws)).map V.int := by
      rw [List.length_map, lcYs_map (fun i : Nat => V.int (wAt ws i)) rest _ (fun i x hx => by rw [List.getD_eq_getElem?_getD, hx]; rfl), List.map_map]
      rfl
    rw [e9] at g9
    tm_at "rzs"
    refine ⟨_, _, rfl, sqL g9, ?_⟩
    have eW : (rest.map (wAt ws)).sum = S (wAt ws) rest := rfl
    rw [eW]
    clear hhs
    generalize hWW : S (wAt ws) rest = Wh at *
    have s19 : Same H H9 := s18.trans s9
    have gR9 := s9 _ _ gR8
    -- high
    tm_at "rzs"
    refine ⟨⟨_, sqL gR9⟩, fun D10 hD10 => lcLq (K := K) (xs := natsV rest) (fun i => if highB T Wh (wAt ws) (wAt fl) (rest.getD i 0) = true then some (.int (rest.getD i 0 : Nat)) else none) hD10 (sqL gR9) (by rw [List.length_map]; omega) (fun i x H10 Kt Kf hx s10 q => ?_) (fun H10 s10 g10 => ?_)⟩
    · obtain ⟨c, hc, rfl⟩ := nat_of_map hx
      have hcl := (hin c (List.mem_of_getElem? hc)).1
      have ed : rest.getD i 0 = c := by rw [List.getD_eq_getElem?_getD, hc]; rfl
      have sC := sqL (K := K) (s10 _ _ (s19 _ _ hC))
      have sW := sqL (K := K) (s10 _ _ (s19 _ _ hW))
      tm_at "rzs"
      refine ⟨_, _, _, _, rfl, rfl, sC, atI_nat (int_at (by omega)), ?_⟩
      tm_at "rzs"
      refine ⟨_, _, _, _, rfl, rfl, sW, atI_nat (int_at hcl), ?_⟩
      tm_at "rzs"
      refine ite2 (fun e => ?_) (fun e => ?_)
      · tm_at "rzs"
        refine q.yes _ _ (Same.refl _) ?_
        show (if highB T Wh (wAt ws) (wAt fl) (rest.getD i 0) = true then _ else _) = _
        rw [ed]
        exact if_pos e
      · refine q.no _ (Same.refl _) ?_
        show (if highB T Wh (wAt ws) (wAt fl) (rest.getD i 0) = true then _ else _) = none
        rw [ed]
        exact if_neg e
    have e10 : lcYs (natsV rest).length (fun i => if highB T Wh (wAt ws) (wAt fl) (rest.getD i 0) = true then some (V.int (rest.getD i 0 : Nat)) else none) = natsV (rest.filter (highB T Wh (wAt ws) (wAt fl))) := by
      rw [List.length_map, lcYs_filter (highB T Wh (wAt ws) (wAt fl)) (fun i : Nat => V.int (i : Int)) rest _ (fun i x hx => by rw [List.getD_eq_getElem?_getD, hx]; rfl)]
    rw [e10] at g10
    have lturn := li.turn fp Wh (by rw [hrest]; exact hWW.symm) (rest.filter (highB T Wh (wAt ws) (wAt fl))) (by rw [hrest])
    have efilt : (List.range ws.length).filter (fun i => p i && !highB T Wh (wAt ws) (wAt fl) i) = rest.filter fun i => !decide (i ∈ rest.filter (highB T Wh (wAt ws) (wAt fl))) := by
      rw [← filter_not_mem, hrest]
    have hgen : ∀ i ∈ rest.filter (highB T Wh (wAt ws) (wAt fl)), i ∈ rest := fun i hi => (List.mem_filter.mp hi).1
    have hself : rest.filter (highB T Wh (wAt ws) (wAt fl)) = [] → rest.filter (highB T Wh (wAt ws) (wAt fl)) = [] := id
    generalize hhi : rest.filter (highB T Wh (wAt ws) (wAt fl)) = high at g10 lturn efilt hgen
    have hhl : high.length ≤ ws.length := by
      rw [← hhi]
      exact Nat.le_trans (List.length_filter_le _ _) hrl
    have gR10 := s10 _ _ gR9
    -- rest
    tm_at "rzs"
    refine ⟨⟨_, sqL gR10⟩, fun D11 hD11 => lcLq (K := K) (xs := natsV rest) (fun i => if (!decide (rest.getD i 0 ∈ high)) = true then some (.int (rest.getD i 0 : Nat)) else none) hD11 (sqL gR10) (by rw [List.length_map]; omega) (fun i x H11 Kt Kf hx s11 q => ?_) (fun H11 s11 g11 => ?_)⟩
    · obtain ⟨c, hc, rfl⟩ := nat_of_map hx
      have ed : rest.getD i 0 = c := by rw [List.getD_eq_getElem?_getD, hc]; rfl
      tm_at "rzs"
      refine ⟨_, _, rfl, .inl (sqL (s11 _ _ g10)), rfl, flat_nats high, _, rfl, ?_⟩
      rw [inV_nats]
      refine ite2 (fun e => ?_) (fun e => ?_)
      · refine ⟨_, rfl, q.yes _ _ (Same.refl _) ?_⟩
        show (if (!decide (rest.getD i 0 ∈ high)) = true then _ else _) = _
        have e' : (!decide (c ∈ high)) = true := e
        rw [ed, if_pos e']
      · refine q.no _ (Same.refl _) ?_
        have e' : ¬ (!decide (c ∈ high)) = true := e
        show (if (!decide (rest.getD i 0 ∈ high)) = true then _ else _) = none
        rw [ed, if_neg e']
    have e11 : lcYs (natsV rest).length (fun i => if (!decide (rest.getD i 0 ∈ high)) = true then some (V.int (rest.getD i 0 : Nat)) else none) = natsV ((List.range ws.length).filter fun i => p i && !highB T Wh (wAt ws) (wAt fl) i) := by
      rw [List.length_map, lcYs_filter (fun i : Nat => !decide (i ∈ high)) (fun i : Nat => V.int (i : Int)) rest _ (fun i x hx => by rw [List.getD_eq_getElem?_getD, hx]; rfl), efilt]
    rw [e11] at g11
    have gH11 := s11 _ _ g10
    have s21 : Same H H11 := (s19.trans s10).trans s11
    -- total -= sum
    tm_at "rzs"
    refine ⟨⟨_, sqL gH11⟩, fun D12 hD12 => lcLq (K := K) (xs := natsV high) (fun i => some (.int (wAt fl (high.getD i 0)))) hD12 (sqL gH11) (by rw [List.length_map]; omega) (fun i x H12 Kt Kf hx s12 q => ?_) (fun H12 s12 g12 => ?_)⟩
    · obtain ⟨c, hc, rfl⟩ := nat_of_map hx
      have hcl := (hin c (hgen c (List.mem_of_getElem? hc))).1
      tm_at "rzs"
      refine ⟨_, _, _, _, rfl, rfl, sqL (s12 _ _ (s21 _ _ hC)), atI_nat (int_at (by omega)), q.yes _ _ (Same.refl _) ?_⟩
      show some (V.int (wAt fl (high.getD i 0))) = some (V.int (wAt fl c))
      rw [List.getD_eq_getElem?_getD, hc]; rfl
    have e12 : lcYs (natsV high).length (fun i => some (V.int (wAt fl (high.getD i 0)))) = (high.map (wAt fl)).map V.int := by
      rw [List.length_map, lcYs_map (fun i : Nat => V.int (wAt fl i)) high _ (fun i x hx => by rw [List.getD_eq_getElem?_getD, hx]; rfl), List.map_map]
      rfl
    rw [e12] at g12
    tm_at "rzs"
    refine ⟨_, _, rfl, sqL g12, ?_⟩
    have eF : (high.map (wAt fl)).sum = S (wAt fl) high := rfl
    rw [eF]
    have hS : 0 ≤ S (wAt fl) high := S_nonneg fun i hi => fp i (hin i (hgen i hi)).1
    tm_at "rzs"
    refine ⟨2 * ((List.range ws.length).filter fun i => p i && !highB T Wh (wAt ws) (wAt fl) i).length + (if high = [] then 0 else 1), ?_, (fun i => p i && !highB T Wh (wAt ws) (wAt fl) i), T - S (wAt fl) high, high, D11, D10, v3, some (.int Wh), v8, v9, v10, v11, rfl, s21.trans s12, s12 _ _ g11, s12 _ _ gH11, s12 _ _ (s11 _ _ (s10 _ _ (s9 _ _ (s8 _ _ gF)))), lturn, by omega, fun eh => ?_, rfl⟩
    · rw [if_neg hhe, efilt]
      by_cases eh : high = []
      · rw [if_pos eh, eh]
        have e1 : (rest.filter fun i => !decide (i ∈ ([] : List Nat))) = rest := by simp
        rw [e1]; omega
      · rw [if_neg eh]
        obtain ⟨j, hj⟩ : ∃ j, j ∈ high := List.exists_mem_of_ne_nil high eh
        have := filter_lt (q := fun i => !decide (i ∈ high)) (hgen j hj) (by rw [decide_eq_true hj]; rfl)
        omega
    · have e1 : (List.range ws.length).filter (fun i => p i && !highB T Wh (wAt ws) (wAt fl) i) = rest := by rw [efilt, eh]; simp
      rw [e1, hWW, eh, S_nil, Int.sub_zero, hhi]
      exact ⟨rfl, eh⟩
end
end My
namespace My
open PySem PySem.Spec PyProof.Rows L2
section
variable {P : Program} {w : World} {K : PySem.W.Frag} {mg : Str → Option Value} {base : Heap}
/-- None, or a whole number from nought -/
def isC (v : V) : Bool := decide (v = .non) || isN v
inductive Cps (H : Hp) : V → Bool → Prop
  | no {w : V} {ty : String} (h : Ty7 H w ty) (k : ty ≠ "list") : Cps H w false
  | lst {a : Addr} {xs : List V} {b : Bool} (g : H a = some (.lst xs)) (t7 : ∀ x ∈ xs, ∃ ty, Ty7 H x ty) (l : xs.length ≤ 1000) (e : b = xs.all isC) : Cps H (.ref a) b
theorem Cps.mono {H H' : Hp} {v : V} {b : Bool} (h : Cps H v b) (s : Same H H') : Cps H' v b := by
  cases h with
  | no h k => exact .no (h.mono s) k
  | lst g t l e => exact .lst (s _ _ g) (fun x hx => let ⟨ty, h⟩ := t x hx; ⟨ty, h.mono s⟩) l e
theorem Wts.mono {H H' : Hp} {n : Int} {v : V} {b : Bool} (h : Wts H n v b) (s : Same H H') : Wts H' n v b := by
  cases h with
  | no h k => exact .no (h.mono s) k
  | lst g t l e => exact .lst (s _ _ g) (fun x hx => let ⟨ty, h⟩ := t x hx; ⟨ty, h.mono s⟩) l e
/-- what cannot be dealt -/
inductive BadD (H : Hp) (t c w : V) : Prop
  | total {ty : String} (h : Ty7 H t ty) (n : isN t = false) : BadD H t c w
  | caps {ty : String} (h : Ty7 H t ty) (n : isN t = true) (hc : Cps H c false) : BadD H t c w
  | weights {ty : String} {a : Addr} {xs : List V} (h : Ty7 H t ty) (n : isN t = true) (ec : c = .ref a) (g : H a = some (.lst xs)) (hc : Cps H c true) (hw : Wts H (xs.length : Int) w false) : BadD H t c w
def Good (K : PySem.W.Frag) (C W : Addr) (total : Int) (cs : List (Option Int)) (ws : List Int) : Hp → (VK) → Prop := fun H Q =>
  H C = some (.lst (cs.map optI)) ∧ H W = some (.lst (ws.map .int)) ∧
  cs.length = ws.length ∧ ws.length ≤ 1000 ∧ 0 ≤ total ∧ total < 2 ^ 64 ∧ (∀ z, some z ∈ cs → 0 ≤ z) ∧ (∀ z ∈ ws, 0 ≤ z ∧ z < 2 ^ 48) ∧
  ∀ p q lv lvv fs H', Same H H' → H p = none → H q = none → H' p = some (.tup [lvv, .ref q]) → H' q = some (.lst (fs.map .int)) → LvAt H' lv lvv → (∀ t b, lv = some (t, b) → t < 2 ^ 64 ∧ b < 2 ^ 64) → Dealt ws.length (wAt ws) (cAt cs) total lv fs → Q (.ref p) H'
theorem isC_of {v : V} (n : v ≠ .non) : isC v = isN v := by unfold isC; rw [decide_eq_false n]; rfl
theorem caps_optI {cs : List (Option Int)} (h : ∀ z, some z ∈ cs → 0 ≤ z) : (cs.map optI).all isC = true := List.all_eq_true.mpr fun x hx => by
  obtain ⟨c, hc, rfl⟩ := List.mem_map.mp hx
  cases c with
  | none => rfl
  | some z =>
    show (decide (V.int z = .non) || decide (0 ≤ z)) = true
    rw [decide_eq_true (h z hc), Bool.or_true]
theorem Cps.good {H : Hp} {C : Addr} {cs : List (Option Int)} (g : H C = some (.lst (cs.map optI))) (l : cs.length ≤ 1000) (h : ∀ z, some z ∈ cs → 0 ≤ z) : Cps H (.ref C) true :=
  .lst g (fun x hx => by obtain ⟨c, _, rfl⟩ := List.mem_map.mp hx; cases c with | none => exact ⟨_, .non⟩ | some z => exact ⟨_, .int z⟩) (by rw [List.length_map]; exact l) (caps_optI h).symm
theorem Wts.good {H : Hp} {W : Addr} {ws : List Int} {n : Int} (g : H W = some (.lst (ws.map .int))) (l : ws.length ≤ 1000) (e : (ws.length : Int) = n) (h : ∀ z ∈ ws, 0 ≤ z) : Wts H n (.ref W) true :=
  .lst g (fun x hx => by obtain ⟨c, _, rfl⟩ := List.mem_map.mp hx; exact ⟨_, .int c⟩) (by rw [List.length_map]; exact l) (by
    rw [List.length_map, decide_eq_true e, List.all_map]
    exact (List.all_eq_true.mpr fun z hz => decide_eq_true (h z hz)).symm)
theorem Cps.items {H : Hp} {a : Addr} {xs : List V} (h : Cps H (.ref a) true) (g : H a = some (.lst xs)) : (∀ x ∈ xs, ∃ ty, Ty7 H x ty) ∧ xs.length ≤ 1000 ∧ true = xs.all isC := by
  cases h with
  | lst g' t7 l e =>
    rw [g] at g'
    cases g'
    exact ⟨t7, l, e⟩
def sp_dealt (K : PySem.W.Frag) (cN : Addr) : Sp := fun vs H Q E => ∃ (t c w : V), vs = [t, c, w] ∧ ((BadD H t c w ∧ ∀ H', Same H H' → E (.ref cN) none H') ∨ ∃ (C W : Addr) (total : Int) (cs : List (Option Int)) (ws : List Int), t = .int total ∧ c = .ref C ∧ w = .ref W ∧ Good K C W total cs ws H Q)
theorem ok_dealt (T : Tx K mg) : FnOk P w K mg base (L2.CX P w) 4 T.d_dealt.f T.d_dealt.fd ["total", "caps", "weights"] (sp_dealt K T.e_NoNumber.C) := by
  refine T.d_dealt.F.okX sc_dealt (fun vs H Q E h => ?_) (fun cdv A outer s H vs Q E hr h => ?_)
  · obtain ⟨t, c, w, rfl, _⟩ := h
    rfl
  · obtain ⟨t, c, w, rfl, h⟩ := h
    refine ⟨_, (pss_cons (ps_expr (pe_call (ok_check_total T) (hr.mono (by decide)) (by rfl) T.d_check_total.g T.d_check_total.F.kp T.d_check_total.b .nil (passes_call (takes_of rfl rfl rfl rfl) (fun _ _ _ _ h => h)) (pa_cons (pv 0) pa_nil)))
      (pss_cons (ps_if (PW.pt (pw_or (pt_not (pt_val (pe_callB is_list (by rfl) T.b_isinstance (by decide +kernel) (pa_cons (pv 1) (pa_cons (pe_bltn (v := .ty "list") (by rfl) T.b_list (by decide +kernel) rfl) pa_nil))))) (pw_or1 (pt_not (pt_val (pe_callB (cr_allK (K := K) rfl rfl) (by rfl) T.b_all (by decide +kernel) (pa_cons (pe_lc (own := [("cap", 3)]) (g := gName 3) (by rfl) sc_dealt.nd (pi_listK (K := K) rfl (pv 1)) (blkOk_by (own := [("cap", 3)]) (N := N_dealt) (sc := defScope s_dealt) (by decide +kernel)) (fun _ _ _ _ _ => (pg_name (i := 3) sc_dealt.nd rfl (Or.inl rfl))) (fun _ _ _ _ _ => pts_nil) (fun _ _ _ _ _ => (pe_or (pe_cmpR op_isN (pv 3) pe_non (nomark _)) (pe_one (pe_call (ok_is_from_nought T) (hr.mono (by decide)) (by rfl) T.d_is_from_nought.g T.d_is_from_nought.F.kp T.d_is_from_nought.b .nil pass0 (pa_cons (pv 3) pa_nil)))))) pa_nil)))))))
      (pss_one (ps_raise rfl (takes_of rfl rfl rfl rfl) (pmk_own PySem.F.excBase_ValueError T.e_NoNumber.x T.e_NoNumber.g T.e_NoNumber.k (raises_own T.e_NoNumber.b T.e_NoNumber.t) rfl)))
      pss_nil)
      (pss_cons (ps_expr (pe_call (ok_check_weights T) (hr.mono (by decide)) (by rfl) T.d_check_weights.g T.d_check_weights.F.kp T.d_check_weights.b .nil (passes_call (takes_of rfl rfl rfl rfl) (fun _ _ _ _ h => h)) (pa_cons (pv 2) (pa_cons (pe_callB (call_lenK (K := K) rfl) (by rfl) T.b_len (by decide +kernel) (pa_cons (pv 1) pa_nil)) pa_nil))))
      (pss_one (ps_ret (pe_call (ok_dealt_parts T) (hr.mono (by decide)) (by rfl) T.d_dealt_parts.g T.d_dealt_parts.F.kp T.d_dealt_parts.b .nil pass0 (pa_cons (pv 0) (pa_cons (pv 1) (pa_cons (pv 2) pa_nil))))))))), ?_⟩
    rcases h with ⟨hb, k⟩ | ⟨C, W, total, cs, ws, rfl, rfl, rfl, hC, hW, hlen, hn, T0, T1, hc0, hw0, k⟩
    · cases hb with
      | total h7 n =>
        refine ⟨_, rfl, t, _, rfl, h7, fun e => ?_, fun e => k _ (Same.refl _)⟩
        rw [n] at e; cases e
      | caps h7 n hc =>
        refine ⟨_, rfl, t, _, rfl, h7, fun e => ?_, fun e => by rw [n] at e; cases e⟩
        cases hc with
        | no h kk =>
          tm_at "rzs"
          refine iteT' (by show (!decide (_ = "list")) = true; rw [decide_eq_false kk]; rfl) ?_
          exact k _ (Same.refl _)
        | @lst a xs _ g t7 l e1 =>
          tm_at "rzs"
          refine ⟨⟨_, sqL g⟩, fun D hD => lcLx (K := K) (xs := xs) (fun i => .bl (isC (xs.getD i .non))) hD (sqL g) (by omega) (fun i x H2 Kt Kf hx s2 kk => ?_) (fun H2 s2 g2 => ?_)⟩
          · obtain ⟨ty, hx7⟩ := t7 x (List.mem_of_getElem? hx)
            have h7' := hx7.mono s2
            rw [List.getD_eq_getElem?_getD, hx] at kk
            have kk : ∀ H4, Same H2 H4 → Kt (.bl (isC x)) H4 := kk
            cases h7' with
            | non => tm_at "rzs"; exact kk _ (Same.refl _)
            | int z =>
              have h7' : Ty7 H2 (.int z) "int" := .int z
              rw [isC_of (fun z => by cases z)] at kk
              tm_at "rzs"
              exact kk _ (Same.refl _)
            | bl b =>
              have h7' := Ty7.bl b (H := H2)
              rw [isC_of (fun z => by cases z)] at kk
              tm_at "rzs"
              exact kk _ (Same.refl _)
            | str b =>
              have h7' := Ty7.str b (H := H2)
              rw [isC_of (fun z => by cases z)] at kk
              tm_at "rzs"
              exact kk _ (Same.refl _)
            | lst b =>
              have h7' := Ty7.lst b
              rw [isC_of (fun z => by cases z)] at kk
              tm_at "rzs"
              exact kk _ (Same.refl _)
            | tup b =>
              have h7' := Ty7.tup b
              rw [isC_of (fun z => by cases z)] at kk
              tm_at "rzs"
              exact kk _ (Same.refl _)
            | dK b =>
              have h7' := Ty7.dK b
              rw [isC_of (fun z => by cases z)] at kk
              tm_at "rzs"
              exact kk _ (Same.refl _)
          rw [bls _ fun i => isC (xs.getD i .non), all_at] at g2
          tm_at "rzs"
          refine ⟨D, _, rfl, sqL g2, ?_⟩
          have e2 : (xs.map isC).all id = false := by rw [e1, List.all_map]; rfl
          rw [e2]
          tm_at "rzs"
          exact k _ s2
      | @weights ty a xs h7 n ec g hc hw =>
        subst ec
        obtain ⟨t7, l, e1⟩ := hc.items g
        refine ⟨_, rfl, t, _, rfl, h7, fun e => ?_, fun e => by rw [n] at e; cases e⟩
        tm_at "rzs"
        refine ⟨⟨_, sqL g⟩, fun D hD => lcLx (K := K) (xs := xs) (fun i => .bl (isC (xs.getD i .non))) hD (sqL g) (by omega) (fun i x H2 Kt Kf hx s2 kk => ?_) (fun H2 s2 g2 => ?_)⟩
        · obtain ⟨ty, hx7⟩ := t7 x (List.mem_of_getElem? hx)
          have h7' := hx7.mono s2
          rw [List.getD_eq_getElem?_getD, hx] at kk
          have kk : ∀ H4, Same H2 H4 → Kt (.bl (isC x)) H4 := kk
          cases h7' with
          | non => tm_at "rzs"; exact kk _ (Same.refl _)
          | int z =>
            have h7' : Ty7 H2 (.int z) "int" := .int z
            rw [isC_of (fun z => by cases z)] at kk
            tm_at "rzs"
            exact kk _ (Same.refl _)
          | bl b =>
            have h7' := Ty7.bl b (H := H2)
            rw [isC_of (fun z => by cases z)] at kk
            tm_at "rzs"
            exact kk _ (Same.refl _)
          | str b =>
            have h7' := Ty7.str b (H := H2)
            rw [isC_of (fun z => by cases z)] at kk
            tm_at "rzs"
            exact kk _ (Same.refl _)
          | lst b =>
            have h7' := Ty7.lst b
            rw [isC_of (fun z => by cases z)] at kk
            tm_at "rzs"
            exact kk _ (Same.refl _)
          | tup b =>
            have h7' := Ty7.tup b
            rw [isC_of (fun z => by cases z)] at kk
            tm_at "rzs"
            exact kk _ (Same.refl _)
          | dK b =>
            have h7' := Ty7.dK b
            rw [isC_of (fun z => by cases z)] at kk
            tm_at "rzs"
            exact kk _ (Same.refl _)
        rw [bls _ fun i => isC (xs.getD i .non), all_at] at g2
        tm_at "rzs"
        refine ⟨D, _, rfl, sqL g2, ?_⟩
        have e2 : (xs.map isC).all id = true := by rw [e1, List.all_map]; rfl
        rw [e2]
        tm_at "rzs"
        have g' := s2 _ _ g
        tm_at "rzs"
        refine ⟨w, _, false, rfl, hw.mono s2, fun H3 s3 => ⟨fun z => (by cases z), fun _ => k _ (s2.trans s3)⟩⟩
    · refine ⟨_, rfl, .int total, _, rfl, .int total, fun e => ?_, fun e => by rw [show isN (.int total) = true from decide_eq_true T0] at e; cases e⟩
      have g := hC
      obtain ⟨t7, l, e1⟩ := (Cps.good hC (by omega) hc0).items hC
      generalize hxs : cs.map optI = xs at g t7 l e1
      have lxs : xs.length = cs.length := by rw [← hxs, List.length_map]
      tm_at "rzs"
      refine ⟨⟨_, sqL g⟩, fun D hD => lcLx (K := K) (xs := xs) (fun i => .bl (isC (xs.getD i .non))) hD (sqL g) (by omega) (fun i x H2 Kt Kf hx s2 kk => ?_) (fun H2 s2 g2 => ?_)⟩
      · obtain ⟨ty, hx7⟩ := t7 x (List.mem_of_getElem? hx)
        have h7' := hx7.mono s2
        rw [List.getD_eq_getElem?_getD, hx] at kk
        have kk : ∀ H4, Same H2 H4 → Kt (.bl (isC x)) H4 := kk
        cases h7' with
        | non => tm_at "rzs"; exact kk _ (Same.refl _)
        | int z =>
          have h7' : Ty7 H2 (.int z) "int" := .int z
          rw [isC_of (fun z => by cases z)] at kk
          tm_at "rzs"
          exact kk _ (Same.refl _)
        | bl b =>
          have h7' := Ty7.bl b (H := H2)
          rw [isC_of (fun z => by cases z)] at kk
          tm_at "rzs"
          exact kk _ (Same.refl _)
        | str b =>
          have h7' := Ty7.str b (H := H2)
          rw [isC_of (fun z => by cases z)] at kk
          tm_at "rzs"
          exact kk _ (Same.refl _)
        | lst b =>
          have h7' := Ty7.lst b
          rw [isC_of (fun z => by cases z)] at kk
          tm_at "rzs"
          exact kk _ (Same.refl _)
        | tup b =>
          have h7' := Ty7.tup b
          rw [isC_of (fun z => by cases z)] at kk
          tm_at "rzs"
          exact kk _ (Same.refl _)
        | dK b =>
          have h7' := Ty7.dK b
          rw [isC_of (fun z => by cases z)] at kk
          tm_at "rzs"
          exact kk _ (Same.refl _)
      rw [bls _ fun i => isC (xs.getD i .non), all_at] at g2
      tm_at "rzs"
      refine ⟨D, _, rfl, sqL g2, ?_⟩
      have e2 : (xs.map isC).all id = true := by rw [e1, List.all_map]; rfl
      rw [e2]
      tm_at "rzs"
      have g' := s2 _ _ g
      tm_at "rzs"
      refine ⟨.ref W, _, true, rfl, (Wts.good hW hn (by omega) fun z hz => (hw0 z hz).1).mono s2, fun H3 s3 => ⟨fun _ => ?_, fun z => by cases z⟩⟩
      tm_at "rzs"
      exact ⟨C, W, total, cs, ws, rfl, sqL ((s2.trans s3) _ _ hC), sqL ((s2.trans s3) _ _ hW), hlen, hn, T0, T1, hc0, hw0, fun p q lv lvv fs H' s np nq hp hq hl hb hd => k p q lv lvv fs H' ((s2.trans s3).trans s) ((s2.trans s3).free np) ((s2.trans s3).free nq) hp hq hl hb hd⟩
end
end My
namespace My
open PySem PySem.Spec PyProof.Rows L2
section
variable {P : Program} {w : World} {K : PySem.W.Frag} {mg : Str → Option Value} {base : Heap}
/-- what cannot be levelled -/
inductive BadL (H : Hp) (t c w : V) : Prop
  | total {ty : String} (h : Ty7 H t ty) (n : isN t = false) : BadL H t c w
  | none {ty ty' : String} (h : Ty7 H t ty) (n : isN t = true) (hc : Ty7 H c ty') (kk : ty' ≠ "list") : BadL H t c w
  | floors {ty : String} {a : Addr} {xs : List V} (h : Ty7 H t ty) (n : isN t = true) (ec : c = .ref a) (g : H a = some (.lst xs)) (hc : Wts H (xs.length : Int) c false) : BadL H t c w
  | weights {ty : String} {a : Addr} {xs : List V} (h : Ty7 H t ty) (n : isN t = true) (ec : c = .ref a) (g : H a = some (.lst xs)) (hc : Wts H (xs.length : Int) c true) (hw : Wts H (xs.length : Int) w false) : BadL H t c w
def GoodL (K : PySem.W.Frag) (C W : Addr) (total : Int) (fl : List Int) (ws : List Int) : Hp → (VK) → Prop := fun H Q =>
  H C = some (.lst (fl.map .int)) ∧ H W = some (.lst (ws.map .int)) ∧
  fl.length = ws.length ∧ ws.length ≤ 1000 ∧ 0 ≤ total ∧ total < 2 ^ 64 ∧ (∀ z ∈ fl, 0 ≤ z) ∧ (∀ z ∈ ws, 0 ≤ z ∧ z < 2 ^ 48) ∧
  ∀ p q lv lvv fs H', Same H H' → H p = none → H q = none → H' p = some (.tup [lvv, .ref q]) → H' q = some (.lst (fs.map .int)) → LvAt H' lv lvv → (∀ t b, lv = some (t, b) → t < 2 ^ 64 ∧ b < 2 ^ 64) → Lev ws.length (wAt ws) (wAt fl) total lv fs → Q (.ref p) H'
theorem Wts.mono' {H H' : Hp} {n : Int} {v : V} {b : Bool} (h : Wts H n v b) (s : Same H H') : Wts H' n v b := by
  cases h with
  | no h k => exact .no (h.mono s) k
  | lst g t l e => exact .lst (s _ _ g) (fun x hx => let ⟨ty, h⟩ := t x hx; ⟨ty, h.mono s⟩) l e
theorem Wts.good' {H : Hp} {W : Addr} {ws : List Int} {n : Int} (g : H W = some (.lst (ws.map .int))) (l : ws.length ≤ 1000) (e : (ws.length : Int) = n) (h : ∀ z ∈ ws, 0 ≤ z) : Wts H n (.ref W) true :=
  .lst g (fun x hx => by obtain ⟨c, _, rfl⟩ := List.mem_map.mp hx; exact ⟨_, .int c⟩) (by rw [List.length_map]; exact l) (by
    rw [List.length_map, decide_eq_true e, List.all_map]
    exact (List.all_eq_true.mpr fun z hz => decide_eq_true (h z hz)).symm)
def sp_levelled (K : PySem.W.Frag) (cN : Addr) : Sp := fun vs H Q E => ∃ (t c w : V), vs = [t, c, w] ∧ ((BadL H t c w ∧ ∀ H', Same H H' → E (.ref cN) none H') ∨ ∃ (C W : Addr) (total : Int) (fl : List Int) (ws : List Int), t = .int total ∧ c = .ref C ∧ w = .ref W ∧ GoodL K C W total fl ws H Q)
theorem ok_levelled (T : Tx K mg) : FnOk P w K mg base (L2.CX P w) 4 T.d_levelled.f T.d_levelled.fd ["total", "floors", "weights"] (sp_levelled K T.e_NoNumber.C) := by
  refine T.d_levelled.F.okX sc_levelled (fun vs H Q E h => ?_) (fun cdv A outer s H vs Q E hr h => ?_)
  · obtain ⟨t, c, w, rfl, _⟩ := h
    rfl
  · obtain ⟨t, c, w, rfl, h⟩ := h
    refine ⟨_, (pss_cons (ps_expr (pe_call (ok_check_total T) (hr.mono (by decide)) (by rfl) T.d_check_total.g T.d_check_total.F.kp T.d_check_total.b .nil (passes_call (takes_of rfl rfl rfl rfl) (fun _ _ _ _ h => h)) (pa_cons (pv 0) pa_nil)))
      (pss_cons (ps_if (pt_not (pt_val (pe_callB is_list (by rfl) T.b_isinstance (by decide +kernel) (pa_cons (pv 1) (pa_cons (pe_bltn (v := .ty "list") (by rfl) T.b_list (by decide +kernel) rfl) pa_nil)))))
      (pss_one (ps_raise rfl (takes_of rfl rfl rfl rfl) (pmk_own PySem.F.excBase_ValueError T.e_NoNumber.x T.e_NoNumber.g T.e_NoNumber.k (raises_own T.e_NoNumber.b T.e_NoNumber.t) rfl)))
      pss_nil)
      (pss_cons (ps_expr (pe_call (ok_check_weights T) (hr.mono (by decide)) (by rfl) T.d_check_weights.g T.d_check_weights.F.kp T.d_check_weights.b .nil (passes_call (takes_of rfl rfl rfl rfl) (fun _ _ _ _ h => h)) (pa_cons (pv 1) (pa_cons (pe_callB (call_lenK (K := K) rfl) (by rfl) T.b_len (by decide +kernel) (pa_cons (pv 1) pa_nil)) pa_nil))))
      (pss_cons (ps_expr (pe_call (ok_check_weights T) (hr.mono (by decide)) (by rfl) T.d_check_weights.g T.d_check_weights.F.kp T.d_check_weights.b .nil (passes_call (takes_of rfl rfl rfl rfl) (fun _ _ _ _ h => h)) (pa_cons (pv 2) (pa_cons (pe_callB (call_lenK (K := K) rfl) (by rfl) T.b_len (by decide +kernel) (pa_cons (pv 1) pa_nil)) pa_nil))))
      (pss_one (ps_ret (pe_call (ok_levelled_parts T) (hr.mono (by decide)) (by rfl) T.d_levelled_parts.g T.d_levelled_parts.F.kp T.d_levelled_parts.b .nil pass0 (pa_cons (pv 0) (pa_cons (pv 1) (pa_cons (pv 2) pa_nil)))))))))), ?_⟩
    rcases h with ⟨hb, k⟩ | ⟨C, W, total, fl, ws, rfl, rfl, rfl, hC, hW, hlen, hn, T0, T1, hc0, hw0, k⟩
    · cases hb with
      | total h7 n =>
        refine ⟨_, rfl, t, _, rfl, h7, fun e => ?_, fun e => k _ (Same.refl _)⟩
        rw [n] at e; cases e
      | none h7 n hc kk =>
        refine ⟨_, rfl, t, _, rfl, h7, fun e => ?_, fun e => by rw [n] at e; cases e⟩
        tm_at "rzs"
        refine iteT' (by show (!decide (_ = "list")) = true; rw [decide_eq_false kk]; rfl) ?_
        exact k _ (Same.refl _)
      | floors h7 n ec g hc =>
        subst ec
        refine ⟨_, rfl, t, _, rfl, h7, fun e => ?_, fun e => by rw [n] at e; cases e⟩
        tm_at "rzs"
        exact ⟨_, _, false, rfl, hc, fun H3 s3 => ⟨fun z => (by cases z), fun _ => k _ s3⟩⟩
      | @weights ty a xs h7 n ec g hc hw =>
        subst ec
        refine ⟨_, rfl, t, _, rfl, h7, fun e => ?_, fun e => by rw [n] at e; cases e⟩
        tm_at "rzs"
        refine ⟨_, _, true, rfl, hc, fun H3 s3 => ⟨fun _ => ?_, fun z => by cases z⟩⟩
        have g' := s3 _ _ g
        tm_at "rzs"
        exact ⟨w, _, false, rfl, hw.mono' s3, fun H4 s4 => ⟨fun z => (by cases z), fun _ => k _ (s3.trans s4)⟩⟩
    · refine ⟨_, rfl, .int total, _, rfl, .int total, fun e => ?_, fun e => by rw [show isN (.int total) = true from decide_eq_true T0] at e; cases e⟩
      tm_at "rzs"
      refine ⟨_, _, true, rfl, Wts.good' hC (by omega) (by rw [List.length_map]) hc0, fun H3 s3 => ⟨fun _ => ?_, fun z => by cases z⟩⟩
      have g' := s3 _ _ hC
      have gW' := s3 _ _ hW
      tm_at "rzs"
      refine ⟨.ref W, _, true, rfl, Wts.good' gW' hn (by rw [List.length_map, hlen]) fun z hz => (hw0 z hz).1, fun H4 s4 => ⟨fun _ => ?_, fun z => by cases z⟩⟩
      tm_at "rzs"
      have s34 := s3.trans s4
      exact ⟨C, W, total, fl, ws, rfl, s34 _ _ hC, s34 _ _ hW, hlen, hn, T0, T1, hc0, hw0, fun p q lv lvv fs H' s np nq hp hq hl hb hd => k p q lv lvv fs H' (s34.trans s) (s34.free np) (s34.free nq) hp hq hl hb hd⟩
end
end My
namespace My
open PySem PySem.Spec PyProof.Rows L2
section
variable {P : Program} {w : World} {K : PySem.W.Frag} {mg : Str → Option Value} {base : Heap}
def sp_w_cell_at (K : PySem.W.Frag) : Sp := fun vs H Q _ => ∃ (a : Addr) (ns : List Int), vs = [.ref a, .int 0] ∧ SqL K H a (ns.map V.int) ∧ ns.length ≤ 63 ∧ Q (.int (ns.headD 0)) H
theorem ok_w_cell_at (T : Tx K mg) : FnOk P w K mg base CX0 1 T.d_w_cell_at.f T.d_w_cell_at.fd ["_law_script", "_law_k"] (sp_w_cell_at K) := by
  refine T.d_w_cell_at.F.ok sc_w_cell_at (fun vs H Q E h => ?_) (fun cdv A outer s H vs Q E hr h => ?_)
  · obtain ⟨x, t, rfl, _⟩ := h
    rfl
  · obtain ⟨a, ns, rfl, hS, hl, k⟩ := h
    refine ⟨_, (pss_cons (ps_if (pt_cmpR op_lt (pv 1) (pe_callB (call_lenK (K := K) rfl) (by rfl) T.b_len (by decide +kernel) (pa_cons (pv 0) pa_nil)) (nomark _))
      (pss_one (ps_ret (pe_ix (ix_seqK (K := K) rfl) (pv 0) (pv 1) (fun _ _ => rfl))))
      pss_nil)
      (pss_one (ps_ret pe_int))), ?_⟩
    refine ⟨_, rfl, _, rfl, _, _, rfl, .inl ⟨_, hS, rfl⟩, _, _, rfl, rfl, _, rfl, ite2 (fun e => ?_) (fun e => ?_)⟩
    · cases ns with
      | nil => simp at e
      | cons z r => exact ⟨_, rfl, _, rfl, .inl ⟨_, _, _, _, rfl, rfl, hS, atI_nat (j := 0) rfl, k⟩⟩
    · cases ns with
      | nil => exact k
      | cons z r => simp at e
end
end My
namespace My
open PySem PySem.Spec PyProof.Rows L2
section
variable {P : Program} {w : World} {K : PySem.W.Frag} {mg : Str → Option Value} {base : Heap}
def sp_w_mixed : Sp := fun vs H Q _ => ∃ (c k : Int), vs = [.int c, .int k] ∧ ∀ n : Int, 0 ≤ n → Q (.int n) H
theorem ok_w_mixed (T : Tx K mg) : FnOk P w K mg base CX0 1 T.d_w_mixed.f T.d_w_mixed.fd ["_law_cell", "_law_k"] (sp_w_mixed) := by
  refine T.d_w_mixed.F.ok sc_w_mixed (fun vs H Q E h => ?_) (fun cdv A outer s H vs Q E hr h => ?_)
  · obtain ⟨x, t, rfl, _⟩ := h
    rfl
  · obtain ⟨c, j, rfl, k⟩ := h
    refine ⟨_, (pss_cons (ps_set (i := 2) sc_w_mixed.nd rfl (Or.inl rfl) (pe_op op_add (pe_op op_mod (pv 0) pe_int) (pe_op op_mul (pe_op op_fdivW (pv 0) pe_int) pe_int)))
      (pss_cons (ps_set (i := 2) sc_w_mixed.nd rfl (Or.inl rfl) (pe_op op_mod (pe_op op_mul (pe_op op_add (pe_op op_add (pv 2) (pe_op op_mul pe_int (pv 1))) pe_int) pe_int) pe_int))
      (pss_cons (ps_set (i := 2) sc_w_mixed.nd rfl (Or.inl rfl) (pe_op op_mod (pe_op op_mul (pv 2) (pe_op op_add (pe_op op_add (pe_op op_fdivW (pv 2) pe_int) pe_int) (pv 1))) pe_int))
      (pss_one (ps_ret (pe_op op_mod (pe_op op_mul (pv 2) (pe_op op_add (pe_op op_fdivW (pv 2) pe_int) pe_int)) pe_int)))))), ?_⟩
    tm_at "rds"
    refine k _ ?_
    exact Int.emod_nonneg _ (by decide)
end
end My
namespace My
open PySem PySem.Spec PyProof.Rows L2
section
variable {P : Program} {w : World} {K : PySem.W.Frag} {mg : Str → Option Value} {base : Heap}
def sp_w_source : Sp := fun vs H Q _ => ∃ (c : Int), vs = [.int c] ∧ New H (src (c, c, 0)) Q
theorem ok_w_source (T : Tx K mg) : FnOk P w K mg base CX0 1 T.d_w_source.f T.d_w_source.fd ["_law_cell"] (sp_w_source) := by
  refine T.d_w_source.F.ok sc_w_source (fun vs H Q E h => ?_) (fun cdv A outer s H vs Q E hr h => ?_)
  · obtain ⟨x, rfl, _⟩ := h
    rfl
  · obtain ⟨c, rfl, k⟩ := h
    refine ⟨_, (pss_one (ps_ret (pe_lstA (pa_cons (pv 0) (pa_cons (pv 0) (pa_cons pe_int pa_nil)))))), ?_⟩
    refine ⟨_, rfl, _, rfl, (by show 3 ≤ sizeLine; decide), k⟩
end
end My
namespace My
open PySem PySem.Spec PyProof.Rows L2
section
variable {P : Program} {w : World} {K : PySem.W.Frag} {mg : Str → Option Value} {base : Heap}
def sp_w_next : Sp := fun vs H Q _ => ∃ (a : Addr) (m : Int), vs = [.ref a, .int m] ∧ Src H a ∧ 0 < m ∧ m < 2 ^ 64 ∧
  ∀ (n : Int) (H' : Hp), Dr a H H' → 0 ≤ n → n < m → Q (.int n) H'
theorem ok_w_next (T : Tx K mg) : FnOk P w K mg base CX0 2 T.d_w_next.f T.d_w_next.fd ["_law_source_here", "_law_many"] (sp_w_next) := by
  refine T.d_w_next.F.ok sc_w_next (fun vs H Q E h => ?_) (fun cdv A outer s H vs Q E hr h => ?_)
  · obtain ⟨a, m, rfl, _⟩ := h
    rfl
  · obtain ⟨a, m, rfl, ⟨⟨c0, c1, c2⟩, hs⟩, m0, m1, k⟩ := h
    have hL : SqL K H a [.int c0, .int c1, .int c2] := sqL hs
    refine ⟨_, (pss_cons (ps_if (pt_cmpR op_ge (pe_ix (ix_seqK (K := K) rfl) (pv 0) pe_int (fun _ _ => rfl)) (pe_op op_pow pe_int pe_int) (nomark _))
      (pss_cons (ps_set (i := 2) sc_w_next.nd rfl (Or.inl rfl) (pe_op op_mod (pe_ix (ix_seqK (K := K) rfl) (pv 0) pe_int (fun _ _ => rfl)) (pv 1)))
      (pss_cons (ps_asg (pe_op op_fdivW (pe_ix (ix_seqK (K := K) rfl) (pv 0) pe_int (fun _ _ => rfl)) (pv 1)) (pg_sub (pv 0) pe_int set_listA))
      (pss_one (ps_ret (pv 2)))))
      pss_nil)
      (pss_cons (ps_asg (pe_op op_add (pe_ix (ix_seqK (K := K) rfl) (pv 0) pe_int (fun _ _ => rfl)) pe_int) (pg_sub (pv 0) pe_int set_listA))
      (pss_one (ps_ret (pe_op op_mod (pe_call (ok_w_mixed T) (hr.mono (by decide)) (by rfl) T.d_w_mixed.g T.d_w_mixed.F.kp T.d_w_mixed.b .nil pass0 (pa_cons (pe_ix (ix_seqK (K := K) rfl) (pv 0) pe_int (fun _ _ => rfl)) (pa_cons (pe_ix (ix_seqK (K := K) rfl) (pv 0) pe_int (fun _ _ => rfl)) pa_nil))) (pv 1)))))), ?_⟩
    refine ⟨_, rfl, .inl ⟨_, _, _, _, rfl, rfl, hL, atI_nat (j := 0) rfl, _, _, rfl, rfl, ⟨by decide, by decide, by decide⟩, _, _, rfl, rfl, _, rfl, ite2 (fun e => ?_) (fun e => ?_)⟩⟩
    · refine ⟨_, rfl, .inl ⟨_, _, _, _, rfl, rfl, hL, atI_nat (j := 0) rfl, ?_⟩⟩
      tm_at "rds"
      refine .inl ⟨_, _, _, _, rfl, rfl, hL, atI_nat (j := 0) rfl, ?_⟩
      tm_at "rds"
      refine ⟨_, _, _, _, rfl, rfl, hs, rfl, fun H1 B1 g1 => ?_⟩
      tm_at "rds"
      refine k _ _ ⟨⟨(c0 / m, c1, c2), g1⟩, B1⟩ ?_ ?_
      · exact Int.emod_nonneg _ (by omega)
      · exact Int.emod_lt_of_pos _ m0
    · refine ⟨_, rfl, .inl ⟨_, _, _, _, rfl, rfl, hL, atI_nat (j := 2) rfl, ?_⟩⟩
      tm_at "rds"
      refine ⟨_, _, _, _, rfl, rfl, hs, rfl, fun H1 B1 g1 => ?_⟩
      refine ⟨_, rfl, .inl ⟨_, _, _, _, rfl, rfl, sqL g1, atI_nat (j := 1) rfl, ?_⟩⟩
      refine ⟨_, rfl, .inl ⟨_, _, _, _, rfl, rfl, sqL g1, atI_nat (j := 2) rfl, ?_⟩⟩
      refine ⟨_, _, rfl, fun n n0 => ?_⟩
      tm_at "rds"
      refine k _ _ ⟨⟨(c0, c1, c2 + 1), g1⟩, B1⟩ ?_ ?_
      · exact Int.emod_nonneg _ (by omega)
      · exact Int.emod_lt_of_pos _ m0
end
end My
namespace My
open PySem PySem.Spec PyProof.Rows L2
section
variable {P : Program} {w : World} {K : PySem.W.Frag} {mg : Str → Option Value} {base : Heap}
def BadK (H : Hp) (k : Int) (t c w : V) : Prop := (k = 0 ∧ BadD H t c w) ∨ (k ≠ 0 ∧ BadL H t c w)
def sp_w_deal (K : PySem.W.Frag) (cN : Addr) : Sp := fun vs H Q E => ∃ (k : Int) (t c w : V), vs = [.int k, t, c, w] ∧ ((BadK H k t c w ∧ ∀ H', Same H H' → E (.ref cN) none H') ∨
  ∃ (C W : Addr) (total : Int) (fl : List Int) (ws : List Int), t = .int total ∧ c = .ref C ∧ w = .ref W ∧ H C = some (.lst (fl.map .int)) ∧ H W = some (.lst (ws.map .int)) ∧ fl.length = ws.length ∧ ws.length ≤ 1000 ∧ 0 ≤ total ∧ total < 2 ^ 64 ∧ (∀ z ∈ fl, 0 ≤ z) ∧ (∀ z ∈ ws, 0 ≤ z ∧ z < 2 ^ 48) ∧
  ∀ (p q : Addr) (lvv : V) (fs : List Int) (H' : Hp), Same H H' → H' p = some (.tup [lvv, .ref q]) → H' q = some (.lst (fs.map V.int)) → fs.length = ws.length → Q (.ref p) H')
theorem ok_w_deal (T : Tx K mg) : FnOk P w K mg base (L2.CX P w) 5 T.d_w_deal.f T.d_w_deal.fd ["_law_kind", "_law_total", "_law_bounds", "_law_weights"] (sp_w_deal K T.e_NoNumber.C) := by
  refine T.d_w_deal.F.okX sc_w_deal (fun vs H Q E h => ?_) (fun cdv A outer s H vs Q E hr h => ?_)
  · obtain ⟨k, t, c, w, rfl, _⟩ := h
    rfl
  · obtain ⟨kd, t, c, w, rfl, h⟩ := h
    refine ⟨_, (pss_cons (ps_if (pt_cmpR op_eq (pv 0) pe_int (nomark _))
      (pss_one (ps_ret (pe_call (ok_dealt T) (hr.mono (by decide)) (by rfl) T.d_dealt.g T.d_dealt.F.kp T.d_dealt.b .nil (passes_call (takes_of rfl rfl rfl rfl) (fun _ _ _ _ h => h)) (pa_cons (pv 1) (pa_cons (pv 2) (pa_cons (pv 3) pa_nil))))))
      pss_nil)
      (pss_one (ps_ret (pe_call (ok_levelled T) (hr.mono (by decide)) (by rfl) T.d_levelled.g T.d_levelled.F.kp T.d_levelled.b .nil (passes_call (takes_of rfl rfl rfl rfl) (fun _ _ _ _ h => h)) (pa_cons (pv 1) (pa_cons (pv 2) (pa_cons (pv 3) pa_nil))))))), ?_⟩
    tm_at "rzs"
    by_cases e : kd = 0
    · refine iteT' (by rw [int_inj_dec]; exact decide_eq_true e) ?_
      tm_at "rzs"
      rcases h with ⟨hb, k⟩ | ⟨C, W, total, fl, ws, rfl, rfl, rfl, hC, hW, hlen, hn, T0, T1, hc0, hw0, k⟩
      · rcases hb with ⟨_, hb⟩ | ⟨n, _⟩
        · exact ⟨t, c, w, rfl, .inl ⟨hb, k⟩⟩
        · exact absurd e n
      · refine ⟨_, _, _, rfl, .inr ⟨C, W, total, fl.map some, ws, rfl, rfl, rfl, ?_, hW, by rw [List.length_map]; exact hlen, hn, T0, T1, fun z hz => ?_, hw0, fun p q lv lvv fs H' s np nq hp hq hl hb hd => ?_⟩⟩
        · rw [hC, List.map_map]; rfl
        · obtain ⟨y, hy, e⟩ := List.mem_map.mp hz
          cases e
          exact hc0 _ hy
        · exact k p q lvv fs H' s hp hq hd.len
    · refine iteF' (by rw [int_inj_dec]; exact decide_eq_false e) ?_
      tm_at "rzs"
      rcases h with ⟨hb, k⟩ | ⟨C, W, total, fl, ws, rfl, rfl, rfl, hC, hW, hlen, hn, T0, T1, hc0, hw0, k⟩
      · rcases hb with ⟨n, _⟩ | ⟨_, hb⟩
        · exact absurd n e
        · exact ⟨t, c, w, rfl, .inl ⟨hb, k⟩⟩
      · exact ⟨_, _, _, rfl, .inr ⟨C, W, total, fl, ws, rfl, rfl, rfl, hC, hW, hlen, hn, T0, T1, hc0, hw0, fun p q lv lvv fs H' s np nq hp hq hl hb hd => k p q lvv fs H' s hp hq hd.len⟩⟩
end
end My
namespace My
open PySem PySem.Spec PyProof.Rows L2
section
variable {P : Program} {w : World} {K : PySem.W.Frag} {mg : Str → Option Value} {base : Heap}
def sp_w_numbers : Sp := fun vs H Q _ => ∃ (s : Addr) (n : Nat), vs = [.ref s, .int (n : Int)] ∧ Src H s ∧ n ≤ 100 ∧ ∀ (p : Addr) (ns : List Int) (H' : Hp), Dr s H H' → H p = none → p ≠ s → H' p = some (.lst (ns.map .int)) → ns.length = n → (∀ z ∈ ns, 0 ≤ z ∧ z < 1000000000000) → Q (.ref p) H'
theorem ok_w_numbers (T : Tx K mg) : FnOk P w K mg base CX0 3 T.d_w_numbers.f T.d_w_numbers.fd ["_law_source_here", "_law_many"] (sp_w_numbers) := by
  refine T.d_w_numbers.F.ok sc_w_numbers (fun vs H Q E h => ?_) (fun cdv A outer s H vs Q E hr h => ?_)
  · obtain ⟨s, n, rfl, _⟩ := h
    rfl
  · obtain ⟨s, n, rfl, hs, hn, k⟩ := h
    refine ⟨_, (pss_cons (ps_set (i := 2) sc_w_numbers.nd rfl (Or.inr rfl) (pe_ix (ix_listK (K := K) rfl) (pe_lstA (pa_cons pe_int (pa_cons pe_int (pa_cons (pe_op op_sub (pe_op op_pow pe_int pe_int) pe_int) pa_nil)))) (pe_call (ok_w_next T) (hr.mono (by decide)) (by rfl) T.d_w_next.g T.d_w_next.F.kp T.d_w_next.b .nil pass0 (pa_cons (pv 0) (pa_cons pe_int pa_nil))) (fun _ _ => rfl)))
      (pss_one (ps_ret (pe_lc (own := [("_law_k", 3)]) (g := gName 3) (by rfl) sc_w_numbers.nd (pi_range1 (by rfl) T.b_range (pa_cons (pv 1) pa_nil)) (blkOk_by (own := [("_law_k", 3)]) (N := N_w_numbers) (sc := defScope s_w_numbers) (by decide +kernel)) (fun _ _ _ _ _ => (pg_name (i := 3) sc_w_numbers.nd rfl (Or.inl rfl))) (fun _ _ _ _ _ => pts_nil) (fun _ _ _ _ _ => (pe_call (ok_w_next T) (hr.mono (by decide)) (by rfl) T.d_w_next.g T.d_w_next.F.kp T.d_w_next.b .nil pass0 (pa_cons (pv 0) (pa_cons (pv 2) pa_nil)))))))), ?_⟩
    tm_at "rzs"
    intro p3 H3 f3 s3 g3
    have np3 : p3 ≠ s := hs.ne f3
    tm_at "rzs"
    intro n4 H4 d4 l4 u4
    obtain ⟨x, hx, far, rfl, far0, far1⟩ := pick3 (P := InR 1 1000000000000) l4 u4 ⟨2, rfl, by decide, by decide⟩ ⟨30, rfl, by decide, by decide⟩ ⟨10 ^ (12 : Int).toNat - 1, rfl, by decide, by decide⟩
    refine ⟨_, _, _, _, rfl, rfl, sqL (d4.app np3 g3), hx, ?_⟩
    have d04 : Dr s H H4 := (Dr.of hs s3).trans d4
    refine ⟨_, rfl, _, rfl, by omega, by omega, fun D hD => lcRo (n := n) (fun i v H => ∃ z : Int, v = .int z ∧ 0 ≤ z ∧ z < 1000000000000) (fun i v Ha Hb acc h g hb => h) (fun i v Ha Hb h hsa d => h) d4.s hD (by omega) (fun i H' Kt Kf acc hi' dp hacc kk => ?_) (fun us H8 d8 hul hub nD gD => ?_)⟩
    · tm_at "rzs"
      intro z H9 d9 l9 u9
      exact kk (.int z) H9 d9 ⟨z, rfl, l9, by omega⟩
    obtain ⟨ns, lns, hns⟩ := pick_list (P := fun v (z : Int) => v = .int z ∧ 0 ≤ z ∧ z < 1000000000000) us hub
    have eu : us = ns.map .int := by
      apply List.ext_getElem?
      intro i
      rw [List.getElem?_map]
      by_cases hi : i < us.length
      · have h1 : us[i]? = some us[i] := List.getElem?_eq_getElem hi
        have h2 : ns[i]? = some ns[i] := List.getElem?_eq_getElem (by omega)
        rw [h1, h2, (hns i _ _ h1 h2).1]; rfl
      · rw [List.getElem?_eq_none (by omega), List.getElem?_eq_none (by omega)]; rfl
    tm_at "rzs"
    refine k D ns H8 (d04.trans d8) (d04.free hD nD) nD (by rw [gD, eu]) (by omega) fun z hz => ?_
    obtain ⟨i, hi⟩ := List.getElem?_of_mem hz
    have hil := (List.getElem?_eq_some_iff.mp hi).1
    exact (hns i us[i] z (List.getElem?_eq_getElem (by omega)) hi).2
end
end My
namespace My
open PySem PySem.Spec PyProof.Rows L2
section
variable {P : Program} {w : World} {K : PySem.W.Frag} {mg : Str → Option Value} {base : Heap}
/-- no list, or a list of plain things -/
inductive LstO (H : Hp) : V → Option (List V) → Prop
  | no {w : V} {ty : String} (h : Ty7 H w ty) (k : ty ≠ "list") : LstO H w none
  | lst {a : Addr} {xs : List V} (g : H a = some (.lst xs)) (t7 : ∀ x ∈ xs, ∃ ty, Ty7 H x ty) (l : xs.length ≤ 100) : LstO H (.ref a) (some xs)
theorem LstO.t7 {H : Hp} {v : V} {o : Option (List V)} (h : LstO H v o) : ∃ ty, Ty7 H v ty := by
  cases h with
  | no h k => exact ⟨_, h⟩
  | lst g t l => exact ⟨_, .lst g⟩
theorem LstO.mono {H H' : Hp} {v : V} {o : Option (List V)} (h : LstO H v o) (s : Same H H') : LstO H' v o := by
  cases h with
  | no h k => exact .no (h.mono s) k
  | lst g t l => exact .lst (s _ _ g) (fun x hx => let ⟨ty, h⟩ := t x hx; ⟨ty, h.mono s⟩) l
def sp_w_no_number : Sp := fun vs H Q _ => ∃ (s : Addr) (kd : Int), vs = [.ref s, .int kd] ∧ Src H s ∧ ∀ (v : V) (H' : Hp), Dr s H H' → (∃ o, LstO H' v o) → isN v = false → (kd = 0 → v ≠ .non) → (∀ r, v = .ref r → H r = none) → Q v H'
theorem ok_w_no_number (T : Tx K mg) : FnOk P w K mg base CX0 3 T.d_w_no_number.f T.d_w_no_number.fd ["_law_source_here", "_law_kind"] (sp_w_no_number) := by
  refine T.d_w_no_number.F.ok sc_w_no_number (fun vs H Q E h => ?_) (fun cdv A outer s H vs Q E hr h => ?_)
  · obtain ⟨s, kd, rfl, _⟩ := h
    rfl
  · obtain ⟨s, kd, rfl, hs, k⟩ := h
    refine ⟨_, (pss_cons (ps_set (i := 2) sc_w_no_number.nd rfl (Or.inl rfl) (pe_lstA (pa_cons pe_bl (pa_cons pe_bl (pa_cons (pe_op op_sub pe_int pe_int) (pa_cons (pe_op op_sub pe_int (pe_op op_pow pe_int pe_int)) (pa_cons pe_str (pa_cons (pe_lstA (pa_cons pe_int pa_nil)) (pa_cons (pe_tupA (pa_cons pe_int pa_nil)) (pa_cons pe_dnewA (pa_cons pe_non pa_nil)))))))))))
      (pss_one (ps_ret (pe_ix (ix_listK (K := K) rfl) (pv 2) (pe_call (ok_w_next T) (hr.mono (by decide)) (by rfl) T.d_w_next.g T.d_w_next.F.kp T.d_w_next.b .nil pass0 (pa_cons (pv 0) (pa_cons (pe_op op_sub pe_int (pe_callTy call_int1 (by rfl) T.b_int (by decide +kernel) (pa_cons (pe_cmpR op_eq (pv 1) pe_int (nomark _)) pa_nil))) pa_nil))) (fun _ _ => rfl))))), ?_⟩
    tm_at "rzs"
    intro pa Ha fa sa ga
    tm_at "rzs"
    intro pb Hb fb sb gb
    tm_at "rzs"
    intro pc Hc fc sc gc
    tm_at "rzs"
    intro pd Hd fd sd gd
    have tc : Same Hc Hd := sd
    have tb : Same Hb Hd := sc.trans tc
    have ta : Same Ha Hd := sb.trans tb
    have t0 : Same H Hd := sa.trans ta
    have hsd := hs.same t0
    have npd : pd ≠ s := (hs.same (sa.trans (sb.trans sc))).ne fd
    tm_at "rzs"
    intro i HZ dZ lZ uZ
    have gZ := sqL (K := K) (dZ.app npd gd)
    have dM : Dr s H HZ := (Dr.of hs t0).trans dZ
    have fr : ∀ {r : Addr} {H2 : Hp}, Same H H2 → H2 r = none → H r = none := fun t f => t.free f
    have nq : ∀ {r : Addr}, H r = none → r ≠ s := fun f => hs.ne f
    have qa : H pa = none := fa
    have qb : H pb = none := sa.free fb
    have qc : H pc = none := (sa.trans sb).free fc
    have ha := dZ.app (nq qa) (ta _ _ ga)
    have hb := dZ.app (nq qb) (tb _ _ gb)
    have hc := dZ.app (nq qc) (tc _ _ gc)
    have h8 : ∀ y ∈ [V.bl true, .bl false, .int (0 - 1), .int (1 - 10 ^ (12 : Int).toNat), .str "1", .ref pa, .ref pb, .ref pc], (∃ o, LstO HZ y o) ∧ isN y = false ∧ y ≠ .non ∧ ∀ r, y = .ref r → H r = none :=
      allC ⟨⟨_, .no (.bl _) (by decide)⟩, rfl, (fun z => by cases z), fun r z => by cases z⟩ <| allC ⟨⟨_, .no (.bl _) (by decide)⟩, rfl, (fun z => by cases z), fun r z => by cases z⟩ <| allC ⟨⟨_, .no (.int _) (by decide)⟩, by decide +kernel, (fun z => by cases z), fun r z => by cases z⟩ <| allC ⟨⟨_, .no (.int _) (by decide)⟩, by decide +kernel, (fun z => by cases z), fun r z => by cases z⟩ <|
      allC ⟨⟨_, .no (.str _) (by decide)⟩, rfl, (fun z => by cases z), fun r z => by cases z⟩ <| allC ⟨⟨_, .lst ha (fun x hx => by rw [List.mem_singleton.mp hx]; exact ⟨_, .int 1⟩) (Nat.le_of_ble_eq_true rfl)⟩, rfl, (fun z => by cases z), fun r z => by cases z; exact qa⟩ <| allC ⟨⟨_, .no (.tup hb) (by decide)⟩, rfl, (fun z => by cases z), fun r z => by cases z; exact qb⟩ <| allC ⟨⟨_, .no (.dK hc) (by decide)⟩, rfl, (fun z => by cases z), fun r z => by cases z; exact qc⟩ allN
    by_cases e : i < 8
    · obtain ⟨v, hv, h1, h2, h3, h4⟩ := pickP [.non] h8 lZ e
      refine ⟨_, _, _, _, rfl, rfl, gZ, hv, ?_⟩
      exact k v HZ dM h1 h2 (fun _ => h3) h4
    · have e8 : i = 8 := by split at uZ <;> omega
      subst e8
      refine ⟨_, _, _, _, rfl, rfl, gZ, rfl, ?_⟩
      refine k .non HZ dM ⟨_, .no .non (by decide)⟩ rfl (fun e0 => ?_) (fun r z => by cases z)
      subst e0
      rw [if_pos (by decide)] at uZ
      omega
end
end My
namespace My
open PySem PySem.Spec PyProof.Rows L2
section
variable {P : Program} {w : World} {K : PySem.W.Frag} {mg : Str → Option Value} {base : Heap}
def sp_w_no_list : Sp := fun vs H Q _ => ∃ (s a : Addr) (xs : List V), vs = [.ref s, .ref a] ∧ Src H s ∧ a ≠ s ∧ H a = some (.lst xs) ∧ ∀ (v : V) (ty : String) (H' : Hp), Dr s H H' → Ty7 H' v ty → ty ≠ "list" → (∀ r, v = .ref r → H r = none) → Q v H'
theorem ok_w_no_list (T : Tx K mg) : FnOk P w K mg base CX0 3 T.d_w_no_list.f T.d_w_no_list.fd ["_law_source_here", "_law_row"] (sp_w_no_list) := by
  refine T.d_w_no_list.F.ok sc_w_no_list (fun vs H Q E h => ?_) (fun cdv A outer s H vs Q E hr h => ?_)
  · obtain ⟨s, a, xs, rfl, _⟩ := h
    rfl
  · obtain ⟨s, a, xs, rfl, hs, nas, g, k⟩ := h
    refine ⟨_, (pss_one (ps_ret (pe_ix (ix_listK (K := K) rfl) (pe_lstA (pa_cons pe_non (pa_cons (pe_callTy (call_tupLK (K := K) rfl) (by rfl) T.b_tuple (by decide +kernel) (pa_cons (pv 1) pa_nil)) (pa_cons pe_str (pa_cons pe_dnewA (pa_cons (pe_callB (call_lenK (K := K) rfl) (by rfl) T.b_len (by decide +kernel) (pa_cons (pv 1) pa_nil)) (pa_cons pe_bl (pa_cons (pe_tupA pa_nil) (pa_cons pe_str (pa_cons (pe_disp (pps_cons pe_int pe_int pps_nil) (by rfl) (by rfl) (fun z => by cases z) (by decide)) pa_nil)))))))))) (pe_call (ok_w_next T) (hr.mono (by decide)) (by rfl) T.d_w_next.g T.d_w_next.F.kp T.d_w_next.b .nil pass0 (pa_cons (pv 0) (pa_cons pe_int pa_nil))) (fun _ _ => rfl)))), ?_⟩
    tm_at "rzs"
    refine ⟨a, _, rfl, sqL g, fun pa Ha fa sa ga => ?_⟩
    tm_at "rzs"
    intro pb Hb fb sb gb
    have gB := sb _ _ (sa _ _ g)
    tm_at "rzs"
    intro pc Hc fc sc gc
    tm_at "rzs"
    refine fun pd hpd => ?_
    refine ⟨upd_same, [(.inl 0, .int 1)], rfl, by decide, ?_⟩
    generalize hH : upd (upd Hc pd (.dK [])) pd (.dK (mergeK [] [(.inl 0, .int 1)])) = Hd
    have gd : Hd pd = some (.dK (mergeK [] [(.inl 0, .int 1)])) := hH ▸ upd_same
    have sd : Same Hc Hd := hH ▸ Same.mut' (Same.mut' (Same.refl _) (But.upd But.refl) hpd) (But.upd But.refl) hpd
    tm_at "rzs"
    intro pe He fe se ge
    have td : Same Hd He := se
    have tc : Same Hc He := sd.trans td
    have tb : Same Hb He := sc.trans tc
    have ta : Same Ha He := sb.trans tb
    have t0 : Same H He := sa.trans ta
    have qa : H pa = none := fa
    have qb : H pb = none := sa.free fb
    have qc : H pc = none := (sa.trans sb).free fc
    have qd : H pd = none := ((sa.trans sb).trans sc).free hpd
    have qe : H pe = none := (((sa.trans sb).trans sc).trans sd).free fe
    tm_at "rzs"
    intro i HZ dZ lZ uZ
    have gZ := sqL (K := K) (dZ.app (hs.ne qe) ge)
    have dM : Dr s H HZ := (Dr.of hs t0).trans dZ
    have ha := dZ.app (hs.ne qa) (ta _ _ ga)
    have hb := dZ.app (hs.ne qb) (tb _ _ gb)
    have hc := dZ.app (hs.ne qc) (tc _ _ gc)
    have hd := dZ.app (hs.ne qd) (td _ _ gd)
    have h9 : ∀ y ∈ [V.non, .ref pa, .str "11", .ref pb, .int (xs.length : Int), .bl true, .ref pc, .str "", .ref pd], (∃ ty, Ty7 HZ y ty ∧ ty ≠ "list") ∧ ∀ r, y = .ref r → H r = none :=
      allC ⟨⟨_, .non, by decide⟩, fun r z => by cases z⟩ <| allC ⟨⟨_, .tup ha, by decide⟩, fun r z => by cases z; exact qa⟩ <| allC ⟨⟨_, .str _, by decide⟩, fun r z => by cases z⟩ <| allC ⟨⟨_, .dK hb, by decide⟩, fun r z => by cases z; exact qb⟩ <| allC ⟨⟨_, .int _, by decide⟩, fun r z => by cases z⟩ <|
      allC ⟨⟨_, .bl _, by decide⟩, fun r z => by cases z⟩ <| allC ⟨⟨_, .tup hc, by decide⟩, fun r z => by cases z; exact qc⟩ <| allC ⟨⟨_, .str _, by decide⟩, fun r z => by cases z⟩ <| allC ⟨⟨_, .dK hd, by decide⟩, fun r z => by cases z; exact qd⟩ allN
    obtain ⟨v, hv, ⟨ty, h1, h2⟩, h3⟩ := pickP [] h9 lZ uZ
    refine ⟨_, _, _, _, rfl, rfl, gZ, hv, ?_⟩
    exact k v ty HZ dM h1 h2 h3
end
end My
namespace My
open PySem PySem.Spec PyProof.Rows L2
section
variable {P : Program} {w : World} {K : PySem.W.Frag} {mg : Str → Option Value} {base : Heap}
theorem Ty7.mutL {H H' : Hp} {a : Addr} {x : V} {ty : String} (h : Ty7 H x ty) (b : But a H H') (g : ∃ xs, H a = some (.lst xs)) (g' : ∃ xs, H' a = some (.lst xs)) : Ty7 H' x ty := by
  obtain ⟨xs, g⟩ := g
  obtain ⟨ys, g'⟩ := g'
  cases h with
  | non => exact .non
  | bl b => exact .bl b
  | int i => exact .int i
  | str i => exact .str i
  | @lst c zs h =>
    by_cases e : c = a
    · subst e; exact .lst g'
    · exact .lst (b _ _ e h)
  | @tup c zs h =>
    have e : c ≠ a := fun e => by subst e; rw [g] at h; cases h
    exact .tup (b _ _ e h)
  | @dK c zs h =>
    have e : c ≠ a := fun e => by subst e; rw [g] at h; cases h
    exact .dK (b _ _ e h)
theorem Ty7.dr {H H' : Hp} {s : Addr} {x : V} {ty : String} (h : Ty7 H x ty) (d : Dr s H H') (hs : Src H s) : Ty7 H' x ty :=
  h.mutL d.b (let ⟨_, g⟩ := hs; ⟨_, g⟩) (let ⟨_, g⟩ := d.s; ⟨_, g⟩)
theorem LstO.dr {H H' : Hp} {s : Addr} {w : V} {o : Option (List V)} (h : LstO H w o) (d : Dr s H H') (hs : Src H s) (n : ∀ r, w = .ref r → r ≠ s) : LstO H' w o := by
  cases h with
  | no h k => exact .no (h.dr d hs) k
  | lst g t7 l => exact .lst (d.app (n _ rfl) g) (fun x hx => let ⟨ty, h⟩ := t7 x hx; ⟨ty, h.dr d hs⟩) l
def isC' (v : V) : Bool := decide (v = .non) || isN v
def fK (kd : Int) : V → Bool := if kd = 0 then isC' else isN
def badC (kd : Int) : Option (List V) → Bool
  | none => true
  | some xs => !(xs.all (fK kd))
def badW (n : Nat) : Option (List V) → Bool
  | none => true
  | some ys => !(decide (ys.length = n) && ys.all isN)
/-- what is handed in: a total, bounds and weights -/
structure Handed (H : Hp) (s : Addr) (n : Nat) (t c w : V) (oc ow : Option (List V)) : Prop where
  lt : ∃ o, LstO H t o
  ts : ∀ r, t = .ref r → r ≠ s
  lc : LstO H c oc
  lw : LstO H w ow
  cs : ∀ r, c = .ref r → r ≠ s
  ws : ∀ r, w = .ref r → r ≠ s
  ln : ∀ xs, oc = some xs → xs.length = n
theorem Handed.dr {H H' : Hp} {s : Addr} {n : Nat} {t c w : V} {oc ow : Option (List V)} (h : Handed H s n t c w oc ow) (d : Dr s H H') (hs : Src H s) : Handed H' s n t c w oc ow :=
  ⟨let ⟨o, k⟩ := h.lt; ⟨o, k.dr d hs h.ts⟩, h.ts, h.lc.dr d hs h.cs, h.lw.dr d hs h.ws, h.cs, h.ws, h.ln⟩
theorem fK_none {kd : Int} {v : V} (h : isN v = false) (k : kd = 0 → v ≠ .non) : fK kd v = false := by
  unfold fK
  by_cases e : kd = 0
  · rw [if_pos e]; unfold isC'; rw [decide_eq_false (k e), h]; rfl
  · rw [if_neg e]; exact h
theorem all_set {f : V → Bool} {xs : List V} {j : Nat} {v : V} (hj : j < xs.length) (h : f v = false) : (xs.set j v).all f = false := by
  rw [List.all_eq_false]
  exact ⟨v, List.mem_iff_getElem?.mpr ⟨j, List.getElem?_set_self hj⟩, by rw [h]; exact Bool.false_ne_true⟩
theorem Handed.t7 {H : Hp} {s : Addr} {n : Nat} {t c w : V} {oc ow : Option (List V)} (h : Handed H s n t c w oc ow) : ∃ ty, Ty7 H t ty := let ⟨o, k⟩ := h.lt; k.t7
def sp_w_spoilt : Sp := fun vs H Q _ => ∃ (s h : Addr) (kd way : Int) (n : Nat) (t c w : V) (oc ow : Option (List V)), vs = [.ref s, .int kd, .ref h, .int way] ∧ Src H s ∧ H h = some (.tup [t, c, w]) ∧ Handed H s n t c w oc ow ∧ 0 < n ∧ n ≤ 60 ∧ 0 ≤ way ∧ way ≤ 5 ∧ (way = 4 → ow ≠ some []) ∧ (way = 5 → ∃ ys, ow = some ys ∧ ys.length = n) ∧
  ∀ (p : Addr) (H' : Hp) (t' c' w' : V) (oc' ow' : Option (List V)), Dr s H H' → H p = none → p ≠ s → H' p = some (.tup [t', c', w']) → Handed H' s n t' c' w' oc' ow' → (isN t' = false ∨ badC kd oc' = true ∨ badW n ow' = true) → Q (.ref p) H'
theorem ok_w_spoilt (T : Tx K mg) : FnOk P w K mg base CX0 4 T.d_w_spoilt.f T.d_w_spoilt.fd ["_law_source_here", "_law_kind", "_law_handed", "_law_way"] (sp_w_spoilt) := by
  refine T.d_w_spoilt.F.ok sc_w_spoilt (fun vs H Q E h => ?_) (fun cdv A outer s H vs Q E hr h => ?_)
  · obtain ⟨s, h, kd, way, n, t, c, w, oc, ow, rfl, _⟩ := h
    rfl
  · obtain ⟨s, h, kd, way, n, t, c, w, oc, ow, rfl, hs, gh, hd, n0, n1, w0, w1, w4, w5, k⟩ := h
    refine ⟨_, (pss_cons (ps_asg (pv 2) (pg_tup (by rfl) (pgs_cons (pg_name (i := 4) sc_w_spoilt.nd rfl (Or.inl rfl)) (pgs_cons (pg_name (i := 5) sc_w_spoilt.nd rfl (Or.inl rfl)) (pgs_cons (pg_name (i := 6) sc_w_spoilt.nd rfl (Or.inl rfl)) pgs_nil)))))
      (pss_cons (ps_if (pt_cmpR op_eq (pv 3) pe_int (nomark _))
      (pss_one (ps_set (i := 4) sc_w_spoilt.nd rfl (Or.inl rfl) (pe_call (ok_w_no_number T) (hr.mono (by decide)) (by rfl) T.d_w_no_number.g T.d_w_no_number.F.kp T.d_w_no_number.b .nil pass0 (pa_cons (pv 0) (pa_cons pe_int pa_nil)))))
      pss_nil)
      (pss_cons (ps_if (PW.pt (pw_and (pt_cmpR op_eq (pv 3) pe_int (nomark _)) (pw_and1 (pt_val (pe_callB is_list (by rfl) T.b_isinstance (by decide +kernel) (pa_cons (pv 5) (pa_cons (pe_bltn (v := .ty "list") (by rfl) T.b_list (by decide +kernel) rfl) pa_nil)))))))
      (pss_one (ps_set (i := 5) sc_w_spoilt.nd rfl (Or.inl rfl) (pe_call (ok_w_no_list T) (hr.mono (by decide)) (by rfl) T.d_w_no_list.g T.d_w_no_list.F.kp T.d_w_no_list.b .nil pass0 (pa_cons (pv 0) (pa_cons (pv 5) pa_nil)))))
      pss_nil)
      (pss_cons (ps_if (PW.pt (pw_and (pt_cmpR op_eq (pv 3) pe_int (nomark _)) (pw_and1 (pt_val (pe_callB is_list (by rfl) T.b_isinstance (by decide +kernel) (pa_cons (pv 6) (pa_cons (pe_bltn (v := .ty "list") (by rfl) T.b_list (by decide +kernel) rfl) pa_nil)))))))
      (pss_one (ps_set (i := 6) sc_w_spoilt.nd rfl (Or.inl rfl) (pe_call (ok_w_no_list T) (hr.mono (by decide)) (by rfl) T.d_w_no_list.g T.d_w_no_list.F.kp T.d_w_no_list.b .nil pass0 (pa_cons (pv 0) (pa_cons (pv 6) pa_nil)))))
      pss_nil)
      (pss_cons (ps_if (PW.pt (pw_and (pt_cmpR op_eq (pv 3) pe_int (nomark _)) (pw_and1 (pt_val (pe_callB is_list (by rfl) T.b_isinstance (by decide +kernel) (pa_cons (pv 5) (pa_cons (pe_bltn (v := .ty "list") (by rfl) T.b_list (by decide +kernel) rfl) pa_nil)))))))
      (pss_cons (ps_set (i := 5) sc_w_spoilt.nd rfl (Or.inl rfl) (pe_callTy (call_listK (K := K) rfl) (by rfl) T.b_list (by decide +kernel) (pa_cons (pv 5) pa_nil)))
      (pss_one (ps_asg (pe_call (ok_w_no_number T) (hr.mono (by decide)) (by rfl) T.d_w_no_number.g T.d_w_no_number.F.kp T.d_w_no_number.b .nil pass0 (pa_cons (pv 0) (pa_cons (pv 1) pa_nil))) (pg_sub (pv 5) (pe_call (ok_w_next T) (hr.mono (by decide)) (by rfl) T.d_w_next.g T.d_w_next.F.kp T.d_w_next.b .nil pass0 (pa_cons (pv 0) (pa_cons (pe_callB (call_lenK (K := K) rfl) (by rfl) T.b_len (by decide +kernel) (pa_cons (pv 5) pa_nil)) pa_nil))) set_listA))))
      pss_nil)
      (pss_cons (ps_if (PW.pt (pw_and (pt_cmpR op_eq (pv 3) pe_int (nomark _)) (pw_and1 (pt_val (pe_callB is_list (by rfl) T.b_isinstance (by decide +kernel) (pa_cons (pv 6) (pa_cons (pe_bltn (v := .ty "list") (by rfl) T.b_list (by decide +kernel) rfl) pa_nil)))))))
      (pss_cons (ps_set (i := 6) sc_w_spoilt.nd rfl (Or.inl rfl) (pe_callTy (call_listK (K := K) rfl) (by rfl) T.b_list (by decide +kernel) (pa_cons (pv 6) pa_nil)))
      (pss_one (ps_asg (pe_call (ok_w_no_number T) (hr.mono (by decide)) (by rfl) T.d_w_no_number.g T.d_w_no_number.F.kp T.d_w_no_number.b .nil pass0 (pa_cons (pv 0) (pa_cons pe_int pa_nil))) (pg_sub (pv 6) (pe_call (ok_w_next T) (hr.mono (by decide)) (by rfl) T.d_w_next.g T.d_w_next.F.kp T.d_w_next.b .nil pass0 (pa_cons (pv 0) (pa_cons (pe_callB (call_lenK (K := K) rfl) (by rfl) T.b_len (by decide +kernel) (pa_cons (pv 6) pa_nil)) pa_nil))) set_listA))))
      pss_nil)
      (pss_cons (ps_if (PW.pt (pw_and (pt_cmpR op_eq (pv 3) pe_int (nomark _)) (pw_and1 (pt_cmpR op_eq (pe_call (ok_w_next T) (hr.mono (by decide)) (by rfl) T.d_w_next.g T.d_w_next.F.kp T.d_w_next.b .nil pass0 (pa_cons (pv 0) (pa_cons pe_int pa_nil))) pe_int (nomark _)))))
      (pss_one (ps_set (i := 6) sc_w_spoilt.nd rfl (Or.inl rfl) (pe_op (op_catK (K := K) rfl) (pv 6) (pe_lstA (pa_cons (pe_call (ok_w_next T) (hr.mono (by decide)) (by rfl) T.d_w_next.g T.d_w_next.F.kp T.d_w_next.b .nil pass0 (pa_cons (pv 0) (pa_cons pe_int pa_nil))) pa_nil)))))
      (pss_one (ps_if (pt_cmpR op_eq (pv 3) pe_int (nomark _))
      (pss_one (ps_set (i := 6) sc_w_spoilt.nd rfl (Or.inl rfl) (pe_slice (sl_listK (K := K) rfl) (pv 6) po_none (po_some (pe_un un_neg pe_int)))))
      pss_nil)))
      (pss_one (ps_ret (pe_tupA (pa_cons (pv 4) (pa_cons (pv 5) (pa_cons (pv 6) pa_nil))))))))))))), ?_⟩
    have hw : way = 0 ∨ way = 1 ∨ way = 2 ∨ way = 3 ∨ way = 4 ∨ way = 5 := by omega
    rcases hw with rfl | rfl | rfl | rfl | rfl | rfl
    · tm_at "rzs"
      refine ⟨_, _, rfl, sqT gh, rfl, ?_⟩
      tm_at "rzs"
      intro v H1 d1 h7 hN hK hF
      tm_at "rzs"
      intro p H9 f9 s9 g9
      have d9 : Dr s H H9 := d1.same s9
      have hd9 := hd.dr d9 hs
      exact k p H9 _ _ _ _ _ d9 (d1.free f9 (d1.s.ne f9)) (d1.s.ne f9) g9 ⟨let ⟨o, h⟩ := h7; ⟨o, h.mono s9⟩, fun r e => hs.ne (hF r e), hd9.lc, hd9.lw, hd9.cs, hd9.ws, hd9.ln⟩ (.inl hN)
    · tm_at "rzs"
      refine ⟨_, _, rfl, sqT gh, rfl, ?_⟩
      tm_at "rzs"
      obtain ⟨⟨ot, lt⟩, ts, lc, lw, cs, ws, ln⟩ := id hd
      cases lc with
      | @no _ ty h kk =>
        tm_at "rzs"
        refine iteF' (decide_eq_false kk) ?_
        tm_at "rzs"
        intro p H9 f9 s9 g9
        have d9 : Dr s H H9 := Dr.of hs s9
        exact k p H9 _ _ _ _ _ d9 f9 (hs.ne f9) g9 (hd.dr d9 hs) (.inr (.inl rfl))
      | @lst a xs g t7' l =>
        tm_at "rzs"
        refine ⟨s, a, xs, rfl, hs, cs _ rfl, g, fun v ty H1 d1 h7 hk hF => ?_⟩
        tm_at "rzs"
        intro p H9 f9 s9 g9
        have d9 : Dr s H H9 := d1.same s9
        have hd9 := hd.dr d9 hs
        exact k p H9 _ _ _ _ _ d9 (d1.free f9 (d1.s.ne f9)) (d1.s.ne f9) g9 ⟨hd9.lt, hd9.ts, .no (h7.mono s9) hk, hd9.lw, fun r e => hs.ne (hF r e), hd9.ws, fun xs e => by cases e⟩ (.inr (.inl rfl))
    · tm_at "rzs"
      refine ⟨_, _, rfl, sqT gh, rfl, ?_⟩
      tm_at "rzs"
      obtain ⟨⟨ot, lt⟩, ts, lc, lw, cs, ws, ln⟩ := id hd
      cases lw with
      | @no _ ty h kk =>
        tm_at "rzs"
        refine iteF' (decide_eq_false kk) ?_
        tm_at "rzs"
        intro p H9 f9 s9 g9
        have d9 : Dr s H H9 := Dr.of hs s9
        exact k p H9 _ _ _ _ _ d9 f9 (hs.ne f9) g9 (hd.dr d9 hs) (.inr (.inr rfl))
      | @lst a xs g t7' l =>
        tm_at "rzs"
        refine ⟨s, a, xs, rfl, hs, ws _ rfl, g, fun v ty H1 d1 h7 hk hF => ?_⟩
        tm_at "rzs"
        intro p H9 f9 s9 g9
        have d9 : Dr s H H9 := d1.same s9
        have hd9 := hd.dr d9 hs
        exact k p H9 _ _ _ _ _ d9 (d1.free f9 (d1.s.ne f9)) (d1.s.ne f9) g9 ⟨hd9.lt, hd9.ts, hd9.lc, .no (h7.mono s9) hk, hd9.cs, fun r e => hs.ne (hF r e), hd9.ln⟩ (.inr (.inr rfl))
    · tm_at "rzs"
      refine ⟨_, _, rfl, sqT gh, rfl, ?_⟩
      tm_at "rzs"
      obtain ⟨⟨ot, lt⟩, ts, lc, lw, cs, ws, ln⟩ := id hd
      cases lc with
      | @no _ ty h kk =>
        tm_at "rzs"
        refine iteF' (decide_eq_false kk) ?_
        tm_at "rzs"
        intro p H9 f9 s9 g9
        have d9 : Dr s H H9 := Dr.of hs s9
        exact k p H9 _ _ _ _ _ d9 f9 (hs.ne f9) g9 (hd.dr d9 hs) (.inr (.inl rfl))
      | @lst a xs g t7' l =>
        have hn : xs.length = n := ln _ rfl
        tm_at "rzs"
        refine ⟨a, _, rfl, .inl (sqL g), fun q H1 f1 s1 g1 => ?_⟩
        have nq : q ≠ s := hs.ne f1
        tm_at "rzs"
        intro v H2 d2 h7 hN hK hF
        have g2 := d2.app nq g1
        refine ⟨_, rfl, ?_⟩
        refine ⟨_, rfl, ?_⟩
        refine ⟨_, rfl, ?_⟩
        refine ⟨_, _, rfl, .inl ⟨_, sqL g2, rfl⟩, ?_⟩
        refine ⟨_, _, rfl, d2.s, by omega, by omega, fun i H3 d3 l3 u3 => ?_⟩
        have g3 := d3.app nq g2
        obtain ⟨j, rfl⟩ := Int.eq_ofNat_of_zero_le l3
        have hj : j < xs.length := by omega
        refine ⟨_, _, _, _, rfl, rfl, g3, ixN_nat hj, fun H4 b4 g4 => ?_⟩
        have d3' : Dr s H H3 := ((Dr.of hs s1).trans d2).trans d3
        have d4 : Dr s H H4 := d3'.mut b4 f1 nq.symm
        tm_at "rzs"
        intro p H9 f9 s9 g9
        have d9 : Dr s H H9 := d4.same s9
        have hd9 := hd.dr d9 hs
        have dd : Dr s H1 H3 := d2.trans d3
        have ti : ∀ x ∈ xs.set j v, ∃ ty, Ty7 H9 x ty := fun x hx => by
          rcases List.mem_or_eq_of_mem_set hx with hx | rfl
          · obtain ⟨ty, hx⟩ := t7' x hx
            exact ⟨ty, hx.dr d9 hs⟩
          · obtain ⟨o7, h7⟩ := h7
            obtain ⟨ty, h7⟩ := h7.t7
            exact ⟨ty, ((h7.dr d3 d2.s).mutL b4 ⟨_, g3⟩ ⟨_, g4⟩).mono s9⟩
        exact k p H9 _ _ _ _ _ d9 (d4.free f9 (d4.s.ne f9)) (d4.s.ne f9) g9 ⟨hd9.lt, hd9.ts, .lst (s9 _ _ g4) ti (by rw [List.length_set]; exact l), hd9.lw, fun r e => by cases e; exact nq, hd9.ws, fun ys e => by cases e; rw [List.length_set]; exact hn⟩ (.inr (.inl (by show (!((xs.set j v).all (fK kd))) = true; rw [all_set hj (fK_none hN hK)]; rfl)))
    · tm_at "rzs"
      refine ⟨_, _, rfl, sqT gh, rfl, ?_⟩
      tm_at "rzs"
      obtain ⟨⟨ot, lt⟩, ts, lc, lw, cs, ws, ln⟩ := id hd
      cases lw with
      | @no _ ty h kk =>
        tm_at "rzs"
        refine iteF' (decide_eq_false kk) ?_
        tm_at "rzs"
        intro p H9 f9 s9 g9
        have d9 : Dr s H H9 := Dr.of hs s9
        exact k p H9 _ _ _ _ _ d9 f9 (hs.ne f9) g9 (hd.dr d9 hs) (.inr (.inr rfl))
      | @lst a xs g t7' l =>
        have hn : 0 < xs.length := by
          cases xs with
          | nil => exact absurd rfl (w4 rfl)
          | cons x xs => exact Nat.succ_pos _
        tm_at "rzs"
        refine ⟨a, _, rfl, .inl (sqL g), fun q H1 f1 s1 g1 => ?_⟩
        have nq : q ≠ s := hs.ne f1
        tm_at "rzs"
        intro v H2 d2 h7 hN hK hF
        have g2 := d2.app nq g1
        refine ⟨_, rfl, ?_⟩
        refine ⟨_, rfl, ?_⟩
        refine ⟨_, rfl, ?_⟩
        refine ⟨_, _, rfl, .inl ⟨_, sqL g2, rfl⟩, ?_⟩
        refine ⟨_, _, rfl, d2.s, by omega, by omega, fun i H3 d3 l3 u3 => ?_⟩
        have g3 := d3.app nq g2
        obtain ⟨j, rfl⟩ := Int.eq_ofNat_of_zero_le l3
        have hj : j < xs.length := by omega
        refine ⟨_, _, _, _, rfl, rfl, g3, ixN_nat hj, fun H4 b4 g4 => ?_⟩
        have d3' : Dr s H H3 := ((Dr.of hs s1).trans d2).trans d3
        have d4 : Dr s H H4 := d3'.mut b4 f1 nq.symm
        tm_at "rzs"
        intro p H9 f9 s9 g9
        have d9 : Dr s H H9 := d4.same s9
        have hd9 := hd.dr d9 hs
        have ti : ∀ x ∈ xs.set j v, ∃ ty, Ty7 H9 x ty := fun x hx => by
          rcases List.mem_or_eq_of_mem_set hx with hx | rfl
          · obtain ⟨ty, hx⟩ := t7' x hx
            exact ⟨ty, hx.dr d9 hs⟩
          · obtain ⟨o7, h7⟩ := h7
            obtain ⟨ty, h7⟩ := h7.t7
            exact ⟨ty, ((h7.dr d3 d2.s).mutL b4 ⟨_, g3⟩ ⟨_, g4⟩).mono s9⟩
        exact k p H9 _ _ _ _ _ d9 (d4.free f9 (d4.s.ne f9)) (d4.s.ne f9) g9 ⟨hd9.lt, hd9.ts, hd9.lc, .lst (s9 _ _ g4) ti (by rw [List.length_set]; exact l), hd9.cs, fun r e => by cases e; exact nq, hd9.ln⟩ (.inr (.inr (by show (!(decide ((xs.set j v).length = n) && (xs.set j v).all isN)) = true; rw [all_set hj hN, Bool.and_false]; rfl)))
    · tm_at "rzs"
      refine ⟨_, _, rfl, sqT gh, rfl, ?_⟩
      tm_at "rzs"
      obtain ⟨ys, rfl, ln'⟩ := w5 rfl
      obtain ⟨⟨ot, lt⟩, ts, lc, lw, cs, ws, ln⟩ := id hd
      cases lw with
      | @lst a xs g t7' l =>
        tm_at "rzs"
        intro i H1 d1 l1 u1
        have g1 := d1.app (ws _ rfl) g
        tm_at "rzs"
        refine ite2 (fun e => ?_) (fun e => ?_)
        · tm_at "rzs"
          intro z H2 d2 l2 u2
          have d12 := d1.trans d2
          have g2 := d12.app (ws _ rfl) g
          tm_at "rzs"
          intro q H3 f3 s3 g3
          refine ⟨_, _, _, _, rfl, rfl, s3 _ _ g2, g3, (show ys.length + 1 ≤ sizeLine from by rw [sizeLine_eq]; exact Nat.le_trans (show _ ≤ 61 by omega) (Nat.le_of_ble_eq_true rfl)), ?_⟩
          intro q4 H4 f4 s4 g4
          tm_at "rzs"
          intro p H9 f9 s9 g9
          have d4 := (d12.same s3).same s4
          have d9 : Dr s H H9 := d4.same s9
          have hd9 := hd.dr d9 hs
          have ti : ∀ x ∈ ys ++ [V.int z], ∃ ty, Ty7 H9 x ty := fun x hx => by
            rcases List.mem_append.mp hx with hx | hx
            · obtain ⟨ty, hx⟩ := t7' x hx
              exact ⟨ty, hx.dr d9 hs⟩
            · rw [List.mem_singleton.mp hx]; exact ⟨_, .int z⟩
          exact k p H9 _ _ _ _ _ d9 (d4.free f9 (d4.s.ne f9)) (d4.s.ne f9) g9 ⟨hd9.lt, hd9.ts, hd9.lc, .lst (s9 _ _ g4) ti (by rw [List.length_append]; show ys.length + 1 ≤ 100; omega), hd9.cs, fun r e => by cases e; exact ((d12.s).same s3).ne f4, hd9.ln⟩ (.inr (.inr (by show (!(decide ((ys ++ [V.int z]).length = n) && _)) = true; rw [decide_eq_false (by rw [List.length_append]; show ¬ ys.length + 1 = n; omega)]; rfl)))
        · tm_at "rzs"
          refine ⟨_, _, rfl, sqL g1, ?_⟩
          rw [cutV_init]
          intro q4 H4 f4 s4 g4
          tm_at "rzs"
          intro p H9 f9 s9 g9
          have d4 := d1.same s4
          have d9 : Dr s H H9 := d4.same s9
          have hd9 := hd.dr d9 hs
          have ti : ∀ x ∈ ys.take (ys.length - 1), ∃ ty, Ty7 H9 x ty := fun x hx => by
            obtain ⟨ty, hx⟩ := t7' x (List.mem_of_mem_take hx)
            exact ⟨ty, hx.dr d9 hs⟩
          exact k p H9 _ _ _ _ _ d9 (d4.free f9 (d4.s.ne f9)) (d4.s.ne f9) g9 ⟨hd9.lt, hd9.ts, hd9.lc, .lst (s9 _ _ g4) ti (by rw [List.length_take]; omega), hd9.cs, fun r e => by cases e; exact (d1.s).ne f4, hd9.ln⟩ (.inr (.inr (by show (!(decide ((ys.take (ys.length - 1)).length = n) && _)) = true; rw [decide_eq_false (by rw [List.length_take]; omega)]; rfl)))
end
end My
namespace My
open PySem PySem.Spec PyProof.Rows L2
section
variable {P : Program} {w : World} {K : PySem.W.Frag} {mg : Str → Option Value} {base : Heap}
def sp_w_copy (K : PySem.W.Frag) : Sp := fun vs H Q _ => ∃ (x : V), vs = [x] ∧ ((∃ ty, Ty7 H x ty ∧ ty ≠ "list" ∧ Q x H) ∨ ∃ (a : Addr) (xs : List V), x = .ref a ∧ H a = some (.lst xs) ∧ ∀ (p : Addr) (H' : Hp), Same H H' → H p = none → H' p = some (.lst xs) → Q (.ref p) H')
theorem ok_w_copy (T : Tx K mg) : FnOk P w K mg base CX0 1 T.d_w_copy.f T.d_w_copy.fd ["_law_thing"] (sp_w_copy K) := by
  refine T.d_w_copy.F.ok sc_w_copy (fun vs H Q E h => ?_) (fun cdv A outer s H vs Q E hr h => ?_)
  · obtain ⟨x, rfl, _⟩ := h
    rfl
  · obtain ⟨x, rfl, h⟩ := h
    refine ⟨_, (pss_cons (ps_if (pt_val (pe_callB is_list (by rfl) T.b_isinstance (by decide +kernel) (pa_cons (pv 0) (pa_cons (pe_bltn (v := .ty "list") (by rfl) T.b_list (by decide +kernel) rfl) pa_nil))))
      (pss_one (ps_ret (pe_callTy (call_listK (K := K) rfl) (by rfl) T.b_list (by decide +kernel) (pa_cons (pv 0) pa_nil))))
      pss_nil)
      (pss_one (ps_ret (pv 0)))), ?_⟩
    rcases h with ⟨ty, h7, n, k⟩ | ⟨a, xs, rfl, g, k⟩
    · tm_at "rzs"
      refine iteF' (decide_eq_false n) ?_
      tm_at "rzs"
      exact k
    · tm_at "rzs"
      exact ⟨a, _, rfl, .inl (sqL g), fun q Hq fq sq gq => k q Hq sq fq gq⟩
end
end My
namespace My
open PySem PySem.Spec PyProof.Rows L2
section
variable {P : Program} {w : World} {K : PySem.W.Frag} {mg : Str → Option Value} {base : Heap}
def sp_w_refused : Sp := fun vs H Q _ => ∃ (kd : Int) (h : Addr) (t c w : V), vs = [.int kd, .ref h] ∧ H h = some (.tup [t, c, w]) ∧ BadK H kd t c w ∧ ∀ H', Same H H' → Q (.bl true) H'
theorem ok_w_refused (T : Tx K mg) : FnOk P w K mg base CX0 6 T.d_w_refused.f T.d_w_refused.fd ["_law_kind", "_law_handed"] (sp_w_refused) := by
  refine T.d_w_refused.F.ok sc_w_refused (fun vs H Q E h => ?_) (fun cdv A outer s H vs Q E hr h => ?_)
  · obtain ⟨k, h, t, c, w, rfl, _⟩ := h
    rfl
  · obtain ⟨kd, h, t, c, w, rfl, hh, hb, k⟩ := h
    refine ⟨_, (pss_cons (ps_try_as (i := 2) rfl rfl sc_w_refused.nd rfl rfl ⟨rfl, by decide, Or.inl T.e_NestError.g⟩ takes0 (fun W pn xe tk _ =>
      (pss_one (ps_expr (pe_callS (ok_w_deal T) (hr.mono (by decide)) (by rfl) T.d_w_deal.g T.d_w_deal.F.kp T.d_w_deal.b (fun σ => passAt tk σ) (pa_cons (pv 0) (pa_cons (pe_ix (ix_seqK (K := K) rfl) (pv 1) pe_int (fun _ _ => rfl)) (pa_cons (pe_ix (ix_seqK (K := K) rfl) (pv 1) pe_int (fun _ _ => rfl)) (pa_cons (pe_ix (ix_seqK (K := K) rfl) (pv 1) pe_int (fun _ _ => rfl)) pa_nil))))))))
      (fun a oe cls d pn hz hf =>
      (pss_cons (ps_set (i := 3) sc_w_refused.nd rfl (Or.inl rfl) (pe_lstA (pa_cons (pe_callB (call_isX hz hf) (by rfl) T.b_isinstance (by decide +kernel) (pa_cons (pv 2) (pa_cons (pe_glob (v := .ref T.e_NoText.C) (by rfl) T.e_NoText.g rfl) pa_nil))) (pa_cons (pe_callB (call_isX hz hf) (by rfl) T.b_isinstance (by decide +kernel) (pa_cons (pv 2) (pa_cons (pe_glob (v := .ref T.e_NoName.C) (by rfl) T.e_NoName.g rfl) pa_nil))) (pa_cons (pe_callB (call_isX hz hf) (by rfl) T.b_isinstance (by decide +kernel) (pa_cons (pv 2) (pa_cons (pe_glob (v := .ref T.e_NoStyle.C) (by rfl) T.e_NoStyle.g rfl) pa_nil))) (pa_cons (pe_callB (call_isX hz hf) (by rfl) T.b_isinstance (by decide +kernel) (pa_cons (pv 2) (pa_cons (pe_glob (v := .ref T.e_NoTrack.C) (by rfl) T.e_NoTrack.g rfl) pa_nil))) pa_nil))))))
      (pss_cons (ps_set (i := 3) sc_w_refused.nd rfl (Or.inl rfl) (pe_op (op_catK (K := K) rfl) (pv 3) (pe_lstA (pa_cons (pe_callB (call_isX hz hf) (by rfl) T.b_isinstance (by decide +kernel) (pa_cons (pv 2) (pa_cons (pe_glob (v := .ref T.e_NoAsk.C) (by rfl) T.e_NoAsk.g rfl) pa_nil))) (pa_cons (pe_callB (call_isX hz hf) (by rfl) T.b_isinstance (by decide +kernel) (pa_cons (pv 2) (pa_cons (pe_glob (v := .ref T.e_NoTree.C) (by rfl) T.e_NoTree.g rfl) pa_nil))) (pa_cons (pe_callB (call_isX hz hf) (by rfl) T.b_isinstance (by decide +kernel) (pa_cons (pv 2) (pa_cons (pe_glob (v := .ref T.e_NoPlace.C) (by rfl) T.e_NoPlace.g rfl) pa_nil))) (pa_cons (pe_callB (call_isX hz hf) (by rfl) T.b_isinstance (by decide +kernel) (pa_cons (pv 2) (pa_cons (pe_glob (v := .ref T.e_NoBox.C) (by rfl) T.e_NoBox.g rfl) pa_nil))) pa_nil)))))))
      (pss_one (ps_ret (pe_and (pe_callB (call_isX hz hf) (by rfl) T.b_isinstance (by decide +kernel) (pa_cons (pv 2) (pa_cons (pe_glob (v := .ref T.e_NoNumber.C) (by rfl) T.e_NoNumber.g rfl) pa_nil))) (pe_and (pe_callB (call_isX hz hf) (by rfl) T.b_isinstance (by decide +kernel) (pa_cons (pv 2) (pa_cons (pe_bltn (v := .ty "ValueError") (by rfl) T.b_ValueError (by decide +kernel) rfl) pa_nil))) (pe_one (pe_cmpR (op_eqDK (K := K) hr.units rfl) (pv 3) (pe_op op_repA (pe_lstA (pa_cons pe_bl pa_nil)) pe_int) (nomark _)))))))))))
      (pss_one (ps_ret pe_bl))), ?_⟩
    tm_at "rzs"
    refine ixE (K := K) (i := 0) (v := t) (.inr (sqT hh)) rfl ?_
    refine ⟨_, rfl, ?_⟩
    refine ixE (K := K) (i := 1) (v := c) (.inr (sqT hh)) rfl ?_
    refine ⟨_, rfl, ?_⟩
    refine ixE (K := K) (i := 2) (v := w) (.inr (sqT hh)) rfl ?_
    refine ⟨kd, t, c, w, rfl, .inl ⟨hb, fun H1 s1 => ⟨true, T.e_NestError.exm T.r_NoNumber, fun _ ae hae => ?_, fun q => Bool.noConfusion q⟩⟩⟩
    tm_at "rds"
    refine ⟨_, _, _, _, rfl, rfl, T.e_NoNumber.E, rfl, fun u r => r, T.e_NoNumber.kitC T.e_NoText T.s_NoNumber T.i_NoText, ?_⟩
    tm_at "rds"
    refine ⟨_, _, _, _, rfl, rfl, T.e_NoNumber.E, rfl, fun u r => r, T.e_NoNumber.kitC T.e_NoName T.s_NoNumber T.i_NoName, ?_⟩
    tm_at "rds"
    refine ⟨_, _, _, _, rfl, rfl, T.e_NoNumber.E, rfl, fun u r => r, T.e_NoNumber.kitC T.e_NoStyle T.s_NoNumber T.i_NoStyle, ?_⟩
    tm_at "rds"
    refine ⟨_, _, _, _, rfl, rfl, T.e_NoNumber.E, rfl, fun u r => r, T.e_NoNumber.kitC T.e_NoTrack T.s_NoNumber T.i_NoTrack, ?_⟩
    tm_at "rds"
    tm_at "rzs"
    intro p H2 f2 s2 g2
    tm_at "rzs"
    refine ⟨_, _, _, _, rfl, rfl, T.e_NoNumber.E, rfl, fun u r => r, T.e_NoNumber.kitC T.e_NoAsk T.s_NoNumber T.i_NoAsk, ?_⟩
    tm_at "rds"
    refine ⟨_, _, _, _, rfl, rfl, T.e_NoNumber.E, rfl, fun u r => r, T.e_NoNumber.kitC T.e_NoTree T.s_NoNumber T.i_NoTree, ?_⟩
    tm_at "rds"
    refine ⟨_, _, _, _, rfl, rfl, T.e_NoNumber.E, rfl, fun u r => r, T.e_NoNumber.kitC T.e_NoPlace T.s_NoNumber T.i_NoPlace, ?_⟩
    tm_at "rds"
    refine ⟨_, _, _, _, rfl, rfl, T.e_NoNumber.E, rfl, fun u r => r, T.e_NoNumber.kitC T.e_NoBox T.s_NoNumber T.i_NoBox, ?_⟩
    tm_at "rds"
    tm_at "rzs"
    intro p3 H3 f3 s3 g3
    refine ⟨_, _, _, _, rfl, rfl, s3 _ _ g2, g3, (show _ ≤ sizeLine from by rw [sizeLine_eq]; exact Nat.le_of_ble_eq_true rfl), ?_⟩
    intro p4 H4 f4 s4 g4
    tm_at "rzs"
    refine ⟨_, _, _, _, rfl, rfl, T.e_NoNumber.E, rfl, fun u r => r, T.e_NoNumber.kit T.e_NoNumber T.s_NoNumber T.s_NoNumber, ?_⟩
    tm_at "rzs"
    refine ⟨_, _, _, _, rfl, rfl, T.e_NoNumber.E, rfl, fun u r => r, T.e_NoNumber.kitT T.v_NoNumber, ?_⟩
    tm_at "rzs"
    intro p5 H5 f5 s5 g5
    have g45 := s5 _ _ g4
    tm_at "rzs"
    refine ⟨p5, _, _, rfl, rfl, g5, by decide, by decide, (show 1 * _ ≤ sizeLine from by rw [sizeLine_eq]; exact Nat.le_of_ble_eq_true rfl), fun p6 H6 f6 s6 g6 => ?_⟩
    refine ⟨_, _, .lst (xs := List.replicate 8 (V.bl false)) (sqL (s6 _ _ g45)) (dpAll_map (f := fun b : Bool => V.bl b) (g := fun b => .bool b) (fun b => .bl b) (List.replicate 8 false)), .lst (xs := List.replicate 8 (V.bl false)) (sqL g6) (dpAll_map (f := fun b : Bool => V.bl b) (g := fun b => .bool b) (fun b => .bl b) (List.replicate 8 false)), by decide +kernel, by decide +kernel, ?_⟩
    have e9 : PyData.eqv (.list ((List.replicate 8 false).map .bool)) (.list ((List.replicate 8 false).map .bool)) = true := by decide +kernel
    rw [e9]
    exact k _ ((((s1.trans s2).trans s3).trans s4).trans (s5.trans s6))
end
end My
namespace My
open PySem PySem.Spec PyProof.Rows L2
section
variable {P : Program} {w : World} {K : PySem.W.Frag} {mg : Str → Option Value} {base : Heap}
def sp_w_told (K : PySem.W.Frag) : Sp := fun vs H Q _ => ∃ (kd : Int) (C W : Addr) (total : Int) (fl ws : List Int), vs = [.int kd, .int total, .ref C, .ref W] ∧ H C = some (.lst (fl.map .int)) ∧ H W = some (.lst (ws.map .int)) ∧ fl.length = ws.length ∧ ws.length ≤ 1000 ∧ 0 ≤ total ∧ total < 2 ^ 64 ∧ (∀ z ∈ fl, 0 ≤ z) ∧ (∀ z ∈ ws, 0 ≤ z ∧ z < 2 ^ 48) ∧ ∀ H', Same H H' → Q (.bl true) H'
theorem ok_w_told (T : Tx K mg) : FnOk P w K mg base CX0 6 T.d_w_told.f T.d_w_told.fd ["_law_kind", "_law_total", "_law_bounds", "_law_weights"] (sp_w_told K) := by
  refine T.d_w_told.F.ok sc_w_told (fun vs H Q E h => ?_) (fun cdv A outer s H vs Q E hr h => ?_)
  · obtain ⟨kd, C, W, total, fl, ws, rfl, _⟩ := h
    rfl
  · obtain ⟨kd, C, W, total, fl, ws, rfl, hC, hW, hlen, hn, T0, T1, hc0, hw0, k⟩ := h
    refine ⟨_, (pss_cons (ps_set (i := 4) sc_w_told.nd rfl (Or.inl rfl) (pe_call (ok_w_deal T) (hr.mono (by decide)) (by rfl) T.d_w_deal.g T.d_w_deal.F.kp T.d_w_deal.b .nil passL (pa_cons (pv 0) (pa_cons (pv 1) (pa_cons (pe_callTy (call_listK (K := K) rfl) (by rfl) T.b_list (by decide +kernel) (pa_cons (pv 2) pa_nil)) (pa_cons (pe_callTy (call_listK (K := K) rfl) (by rfl) T.b_list (by decide +kernel) (pa_cons (pv 3) pa_nil)) pa_nil))))))
      (pss_cons (ps_if (PW.pt (pw_or (pt_not (pt_val (pe_callB is_tuple (by rfl) T.b_isinstance (by decide +kernel) (pa_cons (pv 4) (pa_cons (pe_bltn (v := .ty "tuple") (by rfl) T.b_tuple (by decide +kernel) rfl) pa_nil))))) (pw_or (pt_cmpR op_ne (pe_callB (call_lenK (K := K) rfl) (by rfl) T.b_len (by decide +kernel) (pa_cons (pv 4) pa_nil)) pe_int (nomark _)) (pw_or1 (pt_not (pt_val (pe_callB is_list (by rfl) T.b_isinstance (by decide +kernel) (pa_cons (pe_ix (ix_tupK (K := K) rfl) (pv 4) pe_int (fun _ _ => rfl)) (pa_cons (pe_bltn (v := .ty "list") (by rfl) T.b_list (by decide +kernel) rfl) pa_nil)))))))))
      (pss_one (ps_ret pe_bl))
      pss_nil)
      (pss_one (ps_ret (pe_cmpR op_eq (pe_callB (call_lenK (K := K) rfl) (by rfl) T.b_len (by decide +kernel) (pa_cons (pe_ix (ix_tupK (K := K) rfl) (pv 4) pe_int (fun _ _ => rfl)) pa_nil)) (pe_callB (call_lenK (K := K) rfl) (by rfl) T.b_len (by decide +kernel) (pa_cons (pv 2) pa_nil)) (nomark _)))))), ?_⟩
    tm_at "rzs"
    refine ⟨C, _, rfl, .inl (sqL hC), fun p1 H1 f1 s1 g1 => ?_⟩
    have hW1 := s1 _ _ hW
    tm_at "rzs"
    refine ⟨W, _, rfl, .inl (sqL hW1), fun p2 H2 f2 s2 g2 => ?_⟩
    refine ⟨kd, _, _, _, rfl, .inr ⟨p1, p2, total, fl, ws, rfl, rfl, rfl, s2 _ _ g1, g2, hlen, hn, T0, T1, hc0, hw0, fun p q lvv fs H3 s3 gp gq hl => ?_⟩⟩
    have hC3 := s3 _ _ (s2 _ _ (s1 _ _ hC))
    tm_at "rzs"
    dsimp only
    rw [decide_eq_true (show V.int ((fs.map V.int).length : Int) = V.int ((fl.map V.int).length : Int) by rw [List.length_map, List.length_map, hl, hlen])]
    exact k _ (s1.trans (s2.trans s3))
end
end My
namespace My
open PySem PySem.Spec PyProof.Rows L2
section
variable {P : Program} {w : World} {K : PySem.W.Frag} {mg : Str → Option Value} {base : Heap}
theorem bad_k {H : Hp} {s : Addr} {n : Nat} {kd : Int} {t c w : V} {oc ow : Option (List V)} (h : Handed H s n t c w oc ow) (b : isN t = false ∨ badC kd oc = true ∨ badW n ow = true) : BadK H kd t c w := by
  obtain ⟨ty, t7⟩ := h.t7
  have lc := h.lc
  have lw := h.lw
  have ln := h.ln
  cases hN : isN t with
  | false =>
    by_cases e : kd = 0
    · exact .inl ⟨e, .total t7 hN⟩
    · exact .inr ⟨e, .total t7 hN⟩
  | true =>
    rw [hN] at b
    have b : badC kd oc = true ∨ badW n ow = true := b.resolve_left (by decide)
    cases lc with
    | no h7 k =>
      by_cases e : kd = 0
      · exact .inl ⟨e, .caps t7 hN (.no h7 k)⟩
      · exact .inr ⟨e, .none t7 hN h7 k⟩
    | @lst a xs g t7' l =>
      have l' : xs.length ≤ 1000 := by omega
      have hn : xs.length = n := ln _ rfl
      have hw : badW n ow = true → Wts H (xs.length : Int) w false := fun hb => by
        cases lw with
        | no h7 k => exact .no h7 k
        | @lst a' ys g' t7'' l'' =>
          refine .lst g' t7'' (by omega) ?_
          have hb : (!(decide (ys.length = n) && ys.all isN)) = true := hb
          rw [hn, show decide ((ys.length : Int) = (n : Int)) = decide (ys.length = n) from decide_eq_decide.mpr Int.ofNat_inj]
          cases e9 : (decide (ys.length = n) && ys.all isN) with
          | false => rfl
          | true => rw [e9] at hb; cases hb
      cases hc : badC kd (some xs) with
      | true =>
        have hc : (!(xs.all (fK kd))) = true := hc
        by_cases e : kd = 0
        · refine .inl ⟨e, .caps t7 hN (.lst g t7' l' ?_)⟩
          unfold fK at hc
          rw [if_pos e] at hc
          have : xs.all isC' = false := by
            cases e9 : xs.all isC' with
            | false => rfl
            | true => rw [e9] at hc; cases hc
          exact this.symm
        · refine .inr ⟨e, .floors t7 hN rfl g (.lst g t7' l' ?_)⟩
          unfold fK at hc
          rw [if_neg e] at hc
          rw [decide_eq_true rfl]
          simpa using hc
      | false =>
        have hb := b.resolve_left (by rw [hc]; decide)
        have hc : (!(xs.all (fK kd))) = false := hc
        by_cases e : kd = 0
        · refine .inl ⟨e, .weights t7 hN rfl g (.lst g t7' l' ?_) (hw hb)⟩
          unfold fK at hc
          rw [if_pos e] at hc
          have : xs.all isC' = true := by simpa using hc
          exact this.symm
        · refine .inr ⟨e, .weights t7 hN rfl g (.lst g t7' l' ?_) (hw hb)⟩
          unfold fK at hc
          rw [if_neg e] at hc
          rw [decide_eq_true rfl]
          have : xs.all isN = true := by simpa using hc
          rw [this]; rfl
/-- a thing and its copy -/
def Cop (D : Addr) (H : Hp) (u v : V) : Prop := (u = v ∧ PlainQ u) ∨ ∃ a b zs, u = .ref a ∧ v = .ref b ∧ a ≠ D ∧ b ≠ D ∧ H a = some (.lst zs) ∧ H b = some (.lst zs) ∧ ∀ z ∈ zs, PlainQ z
theorem Cop.but {D : Addr} {H H' : Hp} {u v : V} (h : Cop D H u v) (b : But D H H') : Cop D H' u v := by
  rcases h with h | ⟨a, c, zs, e1, e2, n1, n2, g1, g2, p⟩
  · exact .inl h
  · exact .inr ⟨a, c, zs, e1, e2, n1, n2, b _ _ n1 g1, b _ _ n2 g2, p⟩
theorem Cop.eqQ {D : Addr} {K : PySem.W.Frag} {H H' : Hp} {u v : V} (h : Cop D H u v) (s : Same H H') : EqQ K H' u v := by
  rcases h with h | ⟨a, c, zs, e1, e2, n1, n2, g1, g2, p⟩
  · exact .inl h
  · exact .inr ⟨a, c, zs, e1, e2, sqL (s _ _ g1), sqL (s _ _ g2), p⟩
theorem Ty7.plainQ {H : Hp} {x : V} {ty : String} (h : Ty7 H x ty) : PlainQ x := by
  cases h with
  | non => exact .inl rfl
  | bl b => exact .inl rfl
  | int b => exact .inl rfl
  | str b => exact .inl rfl
  | lst g => exact .inr ⟨_, rfl⟩
  | tup g => exact .inr ⟨_, rfl⟩
  | dK g => exact .inr ⟨_, rfl⟩
def sp_law (K : PySem.W.Frag) : Sp := fun vs H Q _ => ∃ (a : Addr) (ns : List Int), vs = [.ref a] ∧ SqL K H a (ns.map V.int) ∧ ns.length ≤ 63 ∧ ∀ H', Q (.bl true) H'
theorem ok_law (T : Tx K mg) : FnOk P w K mg base CX0 7 T.d_law.f T.d_law.fd ["_law_script"] (sp_law K) := by
  refine T.d_law.F.ok sc_law (fun vs H Q E h => ?_) (fun cdv A outer s H vs Q E hr h => ?_)
  · obtain ⟨a, s, rfl, _⟩ := h
    rfl
  · obtain ⟨a, ns, rfl, hS, hl, k⟩ := h
    refine ⟨_, (pss_cons (ps_for PassesOwn.never (by rfl) (pi_listK (K := K) rfl (pe_op (op_catK (K := K) rfl) (pe_lstA (pa_cons (pe_call (ok_w_cell_at T) (hr.mono (by decide)) (by rfl) T.d_w_cell_at.g T.d_w_cell_at.F.kp T.d_w_cell_at.b .nil pass0 (pa_cons (pv 0) (pa_cons pe_int pa_nil))) pa_nil)) (pe_slice (sl_listK (K := K) rfl) (pv 0) (po_some pe_int) (po_some pe_int)))) (pg_name (i := 1) sc_law.nd rfl (Or.inl rfl))
      (pss_cons (ps_set (i := 2) sc_law.nd rfl (Or.inl rfl) (pe_call (ok_w_source T) (hr.mono (by decide)) (by rfl) T.d_w_source.g T.d_w_source.F.kp T.d_w_source.b .nil pass0 (pa_cons (pv 1) pa_nil)))
      (pss_cons (ps_set (i := 3) sc_law.nd rfl (Or.inl rfl) (pe_call (ok_w_next T) (hr.mono (by decide)) (by rfl) T.d_w_next.g T.d_w_next.F.kp T.d_w_next.b .nil pass0 (pa_cons (pv 2) (pa_cons pe_int pa_nil))))
      (pss_cons (ps_set (i := 4) sc_law.nd rfl (Or.inl rfl) (pe_lstA (pa_cons (pe_call (ok_w_next T) (hr.mono (by decide)) (by rfl) T.d_w_next.g T.d_w_next.F.kp T.d_w_next.b .nil pass0 (pa_cons (pv 2) (pa_cons pe_int pa_nil))) pa_nil)))
      (pss_cons (ps_if (pt_cmpR op_eq (pe_call (ok_w_next T) (hr.mono (by decide)) (by rfl) T.d_w_next.g T.d_w_next.F.kp T.d_w_next.b .nil pass0 (pa_cons (pv 2) (pa_cons pe_int pa_nil))) pe_int (nomark _))
      (pss_one (ps_expr (pe_bm PySem.F.plainAttrs_list PySem.F.slot_list_append PySem.F.type_list_append mt_appendA (pv 4) (pa_cons (pe_call (ok_w_next T) (hr.mono (by decide)) (by rfl) T.d_w_next.g T.d_w_next.F.kp T.d_w_next.b .nil pass0 (pa_cons (pv 2) (pa_cons pe_int pa_nil))) pa_nil))))
      pss_nil)
      (pss_cons (ps_set (i := 5) sc_law.nd rfl (Or.inl rfl) (pe_ix (ix_listK (K := K) rfl) (pe_lstA (pa_cons (pe_op op_add pe_int (pe_call (ok_w_next T) (hr.mono (by decide)) (by rfl) T.d_w_next.g T.d_w_next.F.kp T.d_w_next.b .nil pass0 (pa_cons (pv 2) (pa_cons pe_int pa_nil)))) (pa_cons pe_int pa_nil))) (pe_op op_fdivW (pe_call (ok_w_next T) (hr.mono (by decide)) (by rfl) T.d_w_next.g T.d_w_next.F.kp T.d_w_next.b .nil pass0 (pa_cons (pv 2) (pa_cons pe_int pa_nil))) pe_int) (fun _ _ => rfl)))
      (pss_cons (ps_set (i := 6) sc_law.nd rfl (Or.inl rfl) (pe_ix (ix_listK (K := K) rfl) (pe_call (ok_w_numbers T) (hr.mono (by decide)) (by rfl) T.d_w_numbers.g T.d_w_numbers.F.kp T.d_w_numbers.b .nil pass0 (pa_cons (pv 2) (pa_cons pe_int pa_nil))) pe_int (fun _ _ => rfl)))
      (pss_cons (ps_set (i := 7) sc_law.nd rfl (Or.inl rfl) (pe_call (ok_w_numbers T) (hr.mono (by decide)) (by rfl) T.d_w_numbers.g T.d_w_numbers.F.kp T.d_w_numbers.b .nil pass0 (pa_cons (pv 2) (pa_cons (pv 5) pa_nil))))
      (pss_cons (ps_set (i := 8) sc_law.nd rfl (Or.inl rfl) (pe_call (ok_w_numbers T) (hr.mono (by decide)) (by rfl) T.d_w_numbers.g T.d_w_numbers.F.kp T.d_w_numbers.b .nil pass0 (pa_cons (pv 2) (pa_cons (pv 5) pa_nil))))
      (pss_cons (ps_set (i := 9) sc_law.nd rfl (Or.inl rfl) (pe_tupA (pa_cons (pv 6) (pa_cons (pe_callTy (call_listK (K := K) rfl) (by rfl) T.b_list (by decide +kernel) (pa_cons (pv 7) pa_nil)) (pa_cons (pe_callTy (call_listK (K := K) rfl) (by rfl) T.b_list (by decide +kernel) (pa_cons (pv 8) pa_nil)) pa_nil)))))
      (pss_cons (ps_for PassesOwn.never (by rfl) (pi_listK (K := K) rfl (pv 4)) (pg_name (i := 10) sc_law.nd rfl (Or.inl rfl))
      (pss_one (ps_if (PW.pt (pw_or (pt_cmpR op_ne (pv 10) pe_int (nomark _)) (pw_or1 (pt_cmpR (op_ne0K (K := K) hr.units rfl) (pe_ix (ix_tupK (K := K) rfl) (pv 9) pe_int (fun _ _ => rfl)) (pe_lstA pa_nil) (nomark _)))))
      (pss_one (ps_set (i := 9) sc_law.nd rfl (Or.inl rfl) (pe_call (ok_w_spoilt T) (hr.mono (by decide)) (by rfl) T.d_w_spoilt.g T.d_w_spoilt.F.kp T.d_w_spoilt.b .nil pass0 (pa_cons (pv 2) (pa_cons (pv 3) (pa_cons (pv 9) (pa_cons (pv 10) pa_nil)))))))
      pss_nil)))
      (pss_cons (ps_setLc (i := 11) (own := [("_law_thing", 12)]) (g := gName 12) (by rfl) sc_law.nd rfl rfl (sw_true rfl rfl rfl (by decide +kernel)) (pi_tupK (K := K) rfl (pv 9)) (blkOk_by (own := [("_law_thing", 12)]) (N := N_law) (sc := defScope s_law) (by decide +kernel)) (fun _ _ _ _ _ => (pg_name (i := 12) sc_law.nd rfl (Or.inl rfl))) (fun _ _ _ _ _ => pts_nil) (fun _ _ _ _ _ => (pe_call (ok_w_copy T) (hr.mono (by decide)) (by rfl) T.d_w_copy.g T.d_w_copy.F.kp T.d_w_copy.b .nil pass0 (pa_cons (pv 12) pa_nil))))
      (pss_cons (ps_if (PW.pt (pw_or (pt_not (pt_val (pe_call (ok_w_refused T) (hr.mono (by decide)) (by rfl) T.d_w_refused.g T.d_w_refused.F.kp T.d_w_refused.b .nil pass0 (pa_cons (pv 3) (pa_cons (pv 9) pa_nil))))) (pw_or1 (pt_cmpR (op_neQK (K := K) hr.units rfl) (pe_callTy (call_listK (K := K) rfl) (by rfl) T.b_list (by decide +kernel) (pa_cons (pv 9) pa_nil)) (pv 11) (nomark _)))))
      (pss_one (ps_ret pe_bl))
      pss_nil)
      (pss_one (ps_if (pt_not (pt_val (pe_call (ok_w_told T) (hr.mono (by decide)) (by rfl) T.d_w_told.g T.d_w_told.F.kp T.d_w_told.b .nil pass0 (pa_cons (pv 3) (pa_cons (pv 6) (pa_cons (pv 7) (pa_cons (pv 8) pa_nil)))))))
      (pss_one (ps_ret pe_bl))
      pss_nil)))))))))))))))
      (pss_one (ps_ret pe_bl))), ?_⟩
    tm_at "rzs"
    intro p0 G0 f0 S0 g0
    tm_at "rzs"
    refine ⟨a, _, rfl, S0.seq hS, ?_⟩
    intro p1 G1 f1 S1 g1
    refine ⟨_, _, _, _, rfl, rfl, S1 _ _ g0, g1, cells_len hl, ?_⟩
    intro p2 G2 f2 S2 g2
    generalize hcs : ([V.int (ns.headD 0)] ++ cutV (ns.map V.int) (some 1) (some 10)) = cells at g2
    have hci : ∀ i y, cells[i]? = some y → ∃ z, y = V.int z := fun i y h => cells_ints (by rw [hcs]; exact h)
    refine ⟨_, rfl, ⟨_, sqL g2⟩, for_list (K := K) (a := p2) (xs := cells) (fun i σ H3 => ∃ v1 v2 v3 v4 v5 v6 v7 v8 v9 v10 v11 v12, σ = [some (.ref a), v1, v2, v3, v4, v5, v6, v7, v8, v9, v10, v11, v12] ∧ H3 p2 = some (.lst cells))
      ⟨_, _, _, _, _, _, _, _, _, _, _, _, rfl, g2⟩ (fun i σ H3 _ ⟨_, _, _, _, _, _, _, _, _, _, _, _, _, q⟩ => sqL q) ?_ ?_⟩
    · rintro i y σ H3 hi ⟨v1, v2, v3, v4, v5, v6, v7, v8, v9, v10, v11, v12, rfl, q3⟩
      obtain ⟨z, rfl⟩ := hci i y hi
      tm_at "rzs"
      intro s H4 f4 S4 g4
      have hs4 : Src H4 s := ⟨_, g4⟩
      have np2 : p2 ≠ s := ne_of_none q3 f4
      tm_at "rzs"
      intro kd H5 d5 l5 u5
      tm_at "rzs"
      intro w1 H6 d6 l6 u6
      tm_at "rzs"
      intro pw H7 f7 s7 g7
      have npw : pw ≠ s := (d6.s).ne f7
      have d7 := (d5.trans d6).same s7
      tm_at "rzi"
      dsimp only [gName]
      refine seq_key (M := fun σ H' => ∃ (ws : List Int), ∃ v5 v6 v7 v8 v9 v10 v11 v12 : Option V, σ = [some (.ref a), some (.int z), some (.ref s), some (.int kd), some (.ref pw), v5, v6, v7, v8, v9, v10, v11, v12] ∧ Dr s H4 H' ∧ H' pw = some (.lst (ws.map .int)) ∧ ws.length ≤ 2 ∧ 1 ≤ ws.length ∧ ∀ (i : Nat) (w : Int), ws[i]? = some w → 0 ≤ w ∧ w ≤ 5 ∧ (1 ≤ i → w ≤ 4)) ?_ (fun NN hNN => ?_)
      rotate_left
      · have b1 : ∀ (i : Nat) (w : Int), [w1][i]? = some w → 0 ≤ w ∧ w ≤ 5 ∧ (1 ≤ i → w ≤ 4) := fun i w e => by
          cases i with
          | zero => cases e; exact ⟨l6, by omega, fun h => by omega⟩
          | succ i => cases i <;> cases e
        tm_at "rzs"
        intro n8 H8 d8 l8 u8
        have g8 := d8.app npw g7
        have d48 := d7.trans d8
        tm_at "rzs"
        refine ite2 (fun e => ?_) (fun e => ?_)
        · tm_at "rzs"
          intro w2 H9 d9 l9 u9
          have g9 := d9.app npw g8
          tm_at "rzs"
          refine ⟨_, _, _, rfl, rfl, g9, (show 1 < sizeLine from by rw [sizeLine_eq]; exact Nat.le_of_ble_eq_true rfl), fun H10 b10 g10 => ?_⟩
          refine hNN _ _ ⟨[w1, w2], _, _, _, _, _, _, _, _, rfl, (d48.trans d9).mut b10 ((d5.trans d6).free f7 npw) npw.symm, g10, Nat.le_refl 2, Nat.le_succ 1, fun i w e => ?_⟩
          cases i with
          | zero => exact b1 0 w e
          | succ i =>
            cases i with
            | zero => cases e; exact ⟨l9, by omega, fun _ => by omega⟩
            | succ i => cases i <;> cases e
        · tm_at "rzs"
          exact hNN _ _ ⟨[w1], _, _, _, _, _, _, _, _, rfl, d48, g8, Nat.le_succ 1, Nat.le_refl 1, b1⟩
      rintro σ H8 ⟨ws, v5, v6, v7, v8, v9, v10, v11, v12, rfl, d8, g8, lw2, lw1, bw⟩
      tm_at "rzs"
      intro n9 H9 d9 l9 u9
      tm_at "rzs"
      intro pm H10 f10 s10 g10
      have npm : pm ≠ s := d9.s.ne f10
      tm_at "rzs"
      intro n11 H11 d11 l11 u11
      have d711 : Dr s H4 H11 := ((d8.trans d9).same s10).trans d11
      obtain ⟨x, hx, many, rfl, many1, many0⟩ := pick2 (P := fun v => ∃ m : Nat, v = .int (m : Int) ∧ 1 ≤ m ∧ m ≤ 60) (n := n11 / 5) (by omega) (by omega) (a := .int (1 + n9)) (b := .int 60) ⟨(1 + n9).toNat, by rw [Int.toNat_of_nonneg (by omega)], by omega, by omega⟩ ⟨60, rfl, by decide, by decide⟩
      tm_at "rzs"
      refine ⟨_, _, _, _, rfl, rfl, sqL (d11.app npm g10), hx, ?_⟩
      dsimp only [gName]
      tm_at "rd"
      tm_at "rd"
      tm_at "rd"
      refine ⟨by decide, fun p12 ts H12 d12 f12 np12 g12 tl tb => ?_⟩
      obtain ⟨tot, rfl⟩ : ∃ t, ts = [t] := by
        match ts, tl with
        | [t], _ => exact ⟨t, rfl⟩
      tm_at "rzs"
      intro B bs H13 d13 f13 nB gB bl bb
      tm_at "rzs"
      intro W ws' H14 d14 f14 nW gW wl wb
      have gB14 := d14.app nB gB
      tm_at "rzs"
      refine ⟨B, _, rfl, .inl (sqL gB14), fun b1 H15 f15 s15 g15 => ?_⟩
      have gW15 := s15 _ _ gW
      tm_at "rzs"
      refine ⟨W, _, rfl, .inl (sqL gW15), fun w1 H16 f16 s16 g16 => ?_⟩
      tm_at "rzs"
      intro pH H17 f17 s17 g17
      dsimp only [gName]
      show tSeq _ _ _ [some (.ref a), some (.int z), some (.ref s), some (.int kd), some (.ref pw), some (.int (many : Int)), some (.int tot), some (.ref B), some (.ref W), some (.ref pH), v10, v11, v12] H17
      have d817 : Dr s H8 H17 := (((((((d9.same s10).trans d11).trans d12).trans d13).trans d14).same s15).same s16).same s17
      have d17 : Dr s H4 H17 := d8.trans d817
      have gpw := d817.app npw g8
      have hB17 : H17 b1 = some (.lst (bs.map .int)) := s17 _ _ (s16 _ _ g15)
      have hW17 : H17 w1 = some (.lst (ws'.map .int)) := s17 _ _ g16
      have gB17 : H17 B = some (.lst (bs.map .int)) := s17 _ _ (s16 _ _ (s15 _ _ gB14))
      have gW17 : H17 W = some (.lst (ws'.map .int)) := s17 _ _ (s16 _ _ gW15)
      have nb1 : b1 ≠ s := d14.s.ne f15
      have nw1 : w1 ≠ s := (d14.same s15).s.ne f16
      have nH : pH ≠ s := ((d14.same s15).same s16).s.ne f17
      have hd0 : Handed H17 s many (.int tot) (.ref b1) (.ref w1) (some (bs.map .int)) (some (ws'.map .int)) :=
        ⟨⟨_, .no (.int _) (by decide)⟩, (fun r e => by cases e), .lst hB17 (fun x hx => by obtain ⟨y, _, rfl⟩ := List.mem_map.mp hx; exact ⟨_, .int _⟩) (by rw [List.length_map]; omega), .lst hW17 (fun x hx => by obtain ⟨y, _, rfl⟩ := List.mem_map.mp hx; exact ⟨_, .int _⟩) (by rw [List.length_map]; omega), fun r e => by cases e; exact nb1, fun r e => by cases e; exact nw1, fun xs e => by cases e; rw [List.length_map]; exact bl⟩
      refine ⟨_, rfl, pw, rfl, ⟨_, sqL gpw⟩, for_list (K := K) (a := pw) (xs := ws.map .int) (fun i σ H' => ∃ (hh : Addr) (t c w : V) (oc ow : Option (List V)) (u10 u11 u12 : Option V), σ = [some (.ref a), some (.int z), some (.ref s), some (.int kd), some (.ref pw), some (.int (many : Int)), some (.int tot), some (.ref B), some (.ref W), some (.ref hh), u10, u11, u12] ∧ Dr s H17 H' ∧ hh ≠ s ∧ H' hh = some (.tup [t, c, w]) ∧ Handed H' s many t c w oc ow ∧ (i = 0 → ∃ ys, ow = some ys ∧ ys.length = many) ∧ (1 ≤ i → isN t = false ∨ badC kd oc = true ∨ badW many ow = true))
        ⟨pH, _, _, _, _, _, _, _, _, rfl, Dr.refl (d17.s), nH, g17, hd0, fun _ => ⟨_, rfl, by rw [List.length_map]; exact wl⟩, fun h => by omega⟩ (fun i σ H' _ ⟨_, _, _, _, _, _, _, _, _, _, d, _⟩ => sqL (d.app npw gpw)) ?_ ?_⟩
      · rintro i y σ H18 hi ⟨hh, t, c, w, oc, ow, u10, u11, u12, rfl, d18, nh, gh, hd, hf, hb⟩
        obtain ⟨wy, hwy, rfl⟩ := int_of_map hi
        obtain ⟨wy0, wy5, wy4⟩ := bw i wy hwy
        dsimp only [gName]
        tm_at "rds"
        by_cases e4 : wy = 4
        · refine iteF' (by rw [int_inj_dec, decide_eq_true e4]; rfl) ?_
          tm_at "rds"
          refine ⟨_, _, _, _, rfl, rfl, sqT gh, rfl, ?_⟩
          tm_at "rds"
          intro pz H19 f19 s19 g19
          have d19 : Dr s H17 H19 := d18.same s19
          have hd19 := hd.dr (Dr.of d18.s s19) d18.s
          refine ⟨pz, rfl, sqL g19, ?_⟩
          have lw := hd.lw
          cases lw with
          | no h7 hk =>
            refine .inl ⟨_, h7.mono s19, hk, ?_⟩
            tm_at "rzs"
            exact ⟨s, hh, kd, wy, many, _, _, _, _, _, rfl, d19.s, s19 _ _ gh, hd19, by omega, by omega, wy0, wy5, fun _ => (by intro e; cases e), fun e => by omega, fun p H' t' c' w' oc' ow' d np np' g hd' b3 => ⟨p, t', c', w', oc', ow', _, _, _, rfl, d19.trans d, np', g, hd', fun h => by omega, fun _ => b3⟩⟩
          | @lst aw ys g t7 l =>
            refine .inr ⟨_, _, rfl, sqL (s19 _ _ g), ?_⟩
            cases ys with
            | cons y ys =>
              tm_at "rzs"
              exact ⟨s, hh, kd, wy, many, _, _, _, _, _, rfl, d19.s, s19 _ _ gh, hd19, by omega, by omega, wy0, wy5, fun _ => (by intro e; cases e), fun e => by omega, fun p H' t' c' w' oc' ow' d np np' g hd' b3 => ⟨p, t', c', w', oc', ow', _, _, _, rfl, d19.trans d, np', g, hd', fun h => by omega, fun _ => b3⟩⟩
            | nil =>
              tm_at "rzs"
              have i1 : 1 ≤ i := by
                cases i with
                | zero => obtain ⟨ys, e, l⟩ := hf rfl; cases e; exact absurd l (by intro e; have : 0 = many := e; omega)
                | succ i => exact Nat.succ_le_succ (Nat.zero_le _)
              exact ⟨hh, _, _, _, _, _, _, _, _, rfl, d19, nh, s19 _ _ gh, hd19, fun h => by omega, fun _ => hb i1⟩
        · refine iteT' (by rw [int_inj_dec, decide_eq_false e4]; rfl) ?_
          tm_at "rzs"
          refine ⟨s, hh, kd, wy, many, t, c, w, oc, ow, rfl, d18.s, gh, hd, by omega, by omega, wy0, wy5, fun e => absurd e e4, fun e => ?_, fun p H' t' c' w' oc' ow' d np np' g hd' b3 => ?_⟩
          · exact hf (by cases i with | zero => rfl | succ i => exact absurd (wy4 (Nat.succ_le_succ (Nat.zero_le _))) (by omega))
          · exact ⟨p, t', c', w', oc', ow', _, _, _, rfl, d18.trans d, np', g, hd', fun h => by omega, fun _ => b3⟩
      · rintro σ H18 ⟨hh, t, c, w, oc, ow, u10, u11, u12, rfl, d18, nh, gh, hd, hf, hb⟩
        have hb3 := hb (by rw [List.length_map]; exact lw1)
        tm_at "rzi"
        refine ⟨⟨_, sqT gh⟩, fun D hD => lcT (K := K) (xs := [t, c, w]) (g := gName 12) (tt := tYes) (vs := [12]) (fun i acc H' => Same H18 H' ∧ acc.length = i ∧ ∀ (j : Nat) (u v : V), [t, c, w][j]? = some u → acc[j]? = some v → Cop D H' u v) (fun H' s' g' => ⟨s', rfl, fun j u v _ h => by cases h⟩) hD (fun i acc H' p => sqT (p.1 _ _ gh)) (fun i x acc H' Kt Kf hx p e kk => ?_) (fun acc H' p e => ?_)⟩
        · obtain ⟨o, lx⟩ : ∃ o, LstO H18 x o := by
            cases i with
            | zero => cases hx; exact hd.lt
            | succ i =>
              cases i with
              | zero => cases hx; exact ⟨_, hd.lc⟩
              | succ i =>
                cases i with
                | zero => cases hx; exact ⟨_, hd.lw⟩
                | succ i => cases hx
          obtain ⟨pS, pl, pc⟩ := p
          have hi3 : i < 3 := (List.getElem?_eq_some_iff.mp hx).1
          have step : ∀ (v : V) (H4 H5 : Hp), Same H' H4 → But D H4 H5 → Cop D H4 x v → (Same H18 H5 ∧ (acc ++ [v]).length = i + 1 ∧ ∀ (j : Nat) (u v' : V), [t, c, w][j]? = some u → (acc ++ [v])[j]? = some v' → Cop D H5 u v') := fun v H4 H5 s4 b5 cc => by
            refine ⟨Same.mut' (pS.trans s4) b5 hD, by rw [List.length_append, pl]; rfl, fun j u v' hu hv => ?_⟩
            by_cases ej : j < acc.length
            · rw [List.getElem?_append_left ej] at hv
              have := pc j u v' hu hv
              have h4 : Cop D H4 u v' := by
                rcases this with h | ⟨a, c, zs, e1, e2, n1, n2, g1, g2, p⟩
                · exact .inl h
                · exact .inr ⟨a, c, zs, e1, e2, n1, n2, s4 _ _ g1, s4 _ _ g2, p⟩
              exact h4.but b5
            · rw [List.getElem?_append_right (by omega)] at hv
              have ej2 : j - acc.length = 0 := by
                have := (List.getElem?_eq_some_iff.mp hv).1
                have e1 : [v].length = 1 := rfl
                omega
              rw [ej2] at hv
              cases hv
              have : j = i := by omega
              subst this
              rw [hx] at hu
              cases hu
              exact cc.but b5
          tm_at "rzs"
          cases lx with
          | no h7 hk =>
            refine .inl ⟨_, h7.mono pS, hk, ?_⟩
            exact kk.yes _ _ e (Nat.lt_of_lt_of_le (show _ < 100001 by omega) (by decide)) fun H5 b5 g5 => step _ _ _ (Same.refl _) b5 (.inl ⟨rfl, h7.plainQ⟩)
          | @lst al xs g t7 l =>
            refine .inr ⟨al, xs, rfl, pS _ _ g, fun q H4 s4 f4 g4 => ?_⟩
            exact kk.yes _ _ (s4 _ _ e) (Nat.lt_of_lt_of_le (show _ < 100001 by omega) (by decide)) fun H5 b5 g5 => step _ _ _ s4 b5 (.inr ⟨al, q, xs, rfl, rfl, ne_of_none g hD, (ne_of_none e f4).symm, s4 _ _ (pS _ _ g), g4, fun z hz => let ⟨ty, h⟩ := t7 z hz; h.plainQ⟩)
        obtain ⟨pS, pl, pc⟩ := p
        have gh19 := pS _ _ gh
        have hd19 := hd.dr (Dr.of d18.s pS) d18.s
        tm_at "rzs"
        refine ⟨kd, hh, t, c, w, rfl, gh19, bad_k hd19 hb3, fun H20 s20 => ?_⟩
        tm_at "rzs"
        refine ⟨hh, _, rfl, .inr (sqT (s20 _ _ gh19)), fun q H21 f21 s21 g21 => ?_⟩
        tm_at "rzs"
        have s1821 := (pS.trans s20).trans s21
        refine ⟨q, D, [t, c, w], acc, rfl, rfl, sqL g21, sqL (s21 _ _ (s20 _ _ e)), ?_, ?_⟩
        · match acc, pl with
          | [x0, x1, x2], _ =>
            have s := s20.trans s21
            exact .cons ((pc 0 _ _ rfl rfl).eqQ s) (.cons ((pc 1 _ _ rfl rfl).eqQ s) (.cons ((pc 2 _ _ rfl rfl).eqQ s) .nil))
        tm_at "rzs"
        have d21 := d18.same s1821
        have hws : ∀ x ∈ ws', 0 ≤ x ∧ x < 2 ^ 48 := fun x hx => by have := wb x hx; omega
        have htot := tb tot (List.mem_singleton.mpr rfl)
        refine ⟨kd, B, W, tot, bs, ws', rfl, d21.app nB gB17, d21.app nW gW17, by omega, by omega, by omega, by omega, fun x hx => (bb x hx).1, hws, fun H22 s22 => ?_⟩
        tm_at "rzs"
        exact ⟨_, _, _, _, _, _, _, _, _, _, _, _, rfl, s22 _ _ (((d17.trans d21)).app np2 (S4 _ _ q3))⟩
    · rintro σ H3 ⟨v1, v2, v3, v4, v5, v6, v7, v8, v9, v10, v11, v12, rfl, q3⟩
      tm_at "rzs"
      exact k _
end
end My
namespace My
open PySem L2
theorem law_end {l : PySem.W.OpenLaw} {w : World} {K : PySem.W.Frag} {mg : Str → Option Value} {fa : Addr} (hfa : mg "law" = some (.ref fa)) (T : Tx K mg) :
    ∃ fd : FuncData, (∀ (s : Shared) (v : Value), BindsTo s fd ⟨[v], []⟩ [("_law_script", v)]) ∧ ∀ base : Heap, K.In base → base.Ns mainGlobals mg → FnOk l.prog w K mg base CX0 7 fa fd ["_law_script"] (sp_law K) := by
  have e := hfa.symm.trans T.d_law.g
  cases e
  refine ⟨T.d_law.fd, fun s v => ?_, fun base _ _ => ok_law T⟩
  obtain ⟨oc, od, kV, doc, pm, an, cdv, ct, osl, e, _, _⟩ := T.d_law.F.ex
  rw [e]
  exact .of_eq rfl
end My
open PySem PySem.W PyProof.Rows
set_option maxRecDepth 100000 in
set_option maxHeartbeats 0 in
theorem PySem.Challenge.cw_nestlaid_k02_what_cannot_be_dealt_holds : PySem.Challenge.rw_nestlaid_k02_what_cannot_be_dealt.Holds := by
  w_on; o_law; k_head; (case hw => w_witness2)
  k_fill
  refine L2.walk_of (l := PySem.Challenge.rw_nestlaid_k02_what_cannot_be_dealt) (n := 63) (k := 7) (x := "_law_script") (CX := fun _ => L2.CX0) (sp := fun w => My.sp_law _) rfl (by decide) rfl ⟨rfl, by decide, by decide⟩ (fun w h Y => PySem.W.kIn_of Y) ?F (fun _ _ a ns hl _ hS => ⟨a, ns, rfl, hS, hl, fun _ => rfl⟩) (fun _ _ _ _ _ h => h)
  case F =>
    intro w mg fa h KX G hmg
    refine' My.law_end hmg { d_is_whole := My.df_mk KX G ?a1 ?l1 ?c1 ?k1 (fun _ _ _ _ _ _ us hl => match us, hl with | [_], _ => rfl), d_is_from_nought := My.df_mk KX G ?a2 ?l2 ?c2 ?k2 (fun _ _ _ _ _ _ us hl => match us, hl with | [_], _ => rfl), d_check_total := My.df_mk KX G ?a3 ?l3 ?c3 ?k3 (fun _ _ _ _ _ _ us hl => match us, hl with | [_], _ => rfl), d_check_weights := My.df_mk KX G ?a4 ?l4 ?c4 ?k4 (fun _ _ _ _ _ _ us hl => match us, hl with | [_, _], _ => rfl), d_lowest := My.df_mk KX G ?a5 ?l5 ?c5 ?k5 (fun _ _ _ _ _ _ us hl => match us, hl with | [_, _], _ => rfl), d_running := My.df_mk KX G ?a6 ?l6 ?c6 ?k6 (fun _ _ _ _ _ _ us hl => match us, hl with | [_, _, _], _ => rfl), d_dealt_parts := My.df_mk KX G ?a7 ?l7 ?c7 ?k7 (fun _ _ _ _ _ _ us hl => match us, hl with | [_, _, _], _ => rfl), d_levelled_parts := My.df_mk KX G ?a8 ?l8 ?c8 ?k8 (fun _ _ _ _ _ _ us hl => match us, hl with | [_, _, _], _ => rfl), d_dealt := My.df_mk KX G ?a9 ?l9 ?c9 ?k9 (fun _ _ _ _ _ _ us hl => match us, hl with | [_, _, _], _ => rfl), d_levelled := My.df_mk KX G ?a10 ?l10 ?c10 ?k10 (fun _ _ _ _ _ _ us hl => match us, hl with | [_, _, _], _ => rfl), d_w_cell_at := My.df_mk KX G ?a11 ?l11 ?c11 ?k11 (fun _ _ _ _ _ _ us hl => match us, hl with | [_, _], _ => rfl), d_w_mixed := My.df_mk KX G ?a12 ?l12 ?c12 ?k12 (fun _ _ _ _ _ _ us hl => match us, hl with | [_, _], _ => rfl), d_w_source := My.df_mk KX G ?a13 ?l13 ?c13 ?k13 (fun _ _ _ _ _ _ us hl => match us, hl with | [_], _ => rfl), d_w_next := My.df_mk KX G ?a14 ?l14 ?c14 ?k14 (fun _ _ _ _ _ _ us hl => match us, hl with | [_, _], _ => rfl), d_w_deal := My.df_mk KX G ?a15 ?l15 ?c15 ?k15 (fun _ _ _ _ _ _ us hl => match us, hl with | [_, _, _, _], _ => rfl), d_w_numbers := My.df_mk KX G ?a16 ?l16 ?c16 ?k16 (fun _ _ _ _ _ _ us hl => match us, hl with | [_, _], _ => rfl), d_w_no_number := My.df_mk KX G ?a17 ?l17 ?c17 ?k17 (fun _ _ _ _ _ _ us hl => match us, hl with | [_, _], _ => rfl), d_w_no_list := My.df_mk KX G ?a18 ?l18 ?c18 ?k18 (fun _ _ _ _ _ _ us hl => match us, hl with | [_, _], _ => rfl), d_w_spoilt := My.df_mk KX G ?a19 ?l19 ?c19 ?k19 (fun _ _ _ _ _ _ us hl => match us, hl with | [_, _, _, _], _ => rfl), d_w_copy := My.df_mk KX G ?a20 ?l20 ?c20 ?k20 (fun _ _ _ _ _ _ us hl => match us, hl with | [_], _ => rfl), d_w_refused := My.df_mk KX G ?a21 ?l21 ?c21 ?k21 (fun _ _ _ _ _ _ us hl => match us, hl with | [_, _], _ => rfl), d_w_told := My.df_mk KX G ?a22 ?l22 ?c22 ?k22 (fun _ _ _ _ _ _ us hl => match us, hl with | [_, _, _, _], _ => rfl), d_law := My.df_mk KX G ?a23 ?l23 ?c23 ?k23 (fun _ _ _ _ _ _ us hl => match us, hl with | [_], _ => rfl), b_ValueError := PySem.W.mg_none_of KX G ?z_ValueError, b_all := PySem.W.mg_none_of KX G ?z_all, b_bool := PySem.W.mg_none_of KX G ?z_bool, b_enumerate := PySem.W.mg_none_of KX G ?z_enumerate, b_int := PySem.W.mg_none_of KX G ?z_int, b_isinstance := PySem.W.mg_none_of KX G ?z_isinstance, b_len := PySem.W.mg_none_of KX G ?z_len, b_list := PySem.W.mg_none_of KX G ?z_list, b_range := PySem.W.mg_none_of KX G ?z_range, b_sum := PySem.W.mg_none_of KX G ?z_sum, b_tuple := PySem.W.mg_none_of KX G ?z_tuple, b_zip := PySem.W.mg_none_of KX G ?z_zip, e_NestError := My.ex_mk KX G ?eNestError0 ?eNestError1 ?eNestError2 ?eNestError3 ?eNestError4 ?eNestError5 ?eNestError6 ?eNestError7 ?eNestError8 ?eNestError9 ?eNestError10 ?eNestError11, e_NoNumber := My.ex_mk KX G ?eNoNumber0 ?eNoNumber1 ?eNoNumber2 ?eNoNumber3 ?eNoNumber4 ?eNoNumber5 ?eNoNumber6 ?eNoNumber7 ?eNoNumber8 ?eNoNumber9 ?eNoNumber10 ?eNoNumber11, r_NoNumber := ?r_NoNumber, s_NoNumber := ?s_NoNumber, v_NoNumber := ?v_NoNumber, e_NoText := My.ec_mk KX G ?eNoText0 ?eNoText1 ?eNoText2, i_NoText := ?i_NoText, e_NoName := My.ec_mk KX G ?eNoName0 ?eNoName1 ?eNoName2, i_NoName := ?i_NoName, e_NoStyle := My.ec_mk KX G ?eNoStyle0 ?eNoStyle1 ?eNoStyle2, i_NoStyle := ?i_NoStyle, e_NoTrack := My.ec_mk KX G ?eNoTrack0 ?eNoTrack1 ?eNoTrack2, i_NoTrack := ?i_NoTrack, e_NoAsk := My.ec_mk KX G ?eNoAsk0 ?eNoAsk1 ?eNoAsk2, i_NoAsk := ?i_NoAsk, e_NoTree := My.ec_mk KX G ?eNoTree0 ?eNoTree1 ?eNoTree2, i_NoTree := ?i_NoTree, e_NoPlace := My.ec_mk KX G ?eNoPlace0 ?eNoPlace1 ?eNoPlace2, i_NoPlace := ?i_NoPlace, e_NoBox := My.ec_mk KX G ?eNoBox0 ?eNoBox1 ?eNoBox2, i_NoBox := ?i_NoBox }
    (case a1 => k_is)
    (case l1 => k_is)
    (case c1 => k_is)
    (case k1 => k_is)
    (case a2 => k_is)
    (case l2 => k_is)
    (case c2 => k_is)
    (case k2 => k_is)
    (case a3 => k_is)
    (case l3 => k_is)
    (case c3 => k_is)
    (case k3 => k_is)
    (case a4 => k_is)
    (case l4 => k_is)
    (case c4 => k_is)
    (case k4 => k_is)
    (case a5 => k_is)
    (case l5 => k_is)
    (case c5 => k_is)
    (case k5 => k_is)
    (case a6 => k_is)
    (case l6 => k_is)
    (case c6 => k_is)
    (case k6 => k_is)
    (case a7 => k_is)
    (case l7 => k_is)
    (case c7 => k_is)
    (case k7 => k_is)
    (case a8 => k_is)
    (case l8 => k_is)
    (case c8 => k_is)
    (case k8 => k_is)
    (case a9 => k_is)
    (case l9 => k_is)
    (case c9 => k_is)
    (case k9 => k_is)
    (case a10 => k_is)
    (case l10 => k_is)
    (case c10 => k_is)
    (case k10 => k_is)
    (case a11 => k_is)
    (case l11 => k_is)
    (case c11 => k_is)
    (case k11 => k_is)
    (case a12 => k_is)
    (case l12 => k_is)
    (case c12 => k_is)
    (case k12 => k_is)
    (case a13 => k_is)
    (case l13 => k_is)
    (case c13 => k_is)
    (case k13 => k_is)
    (case a14 => k_is)
    (case l14 => k_is)
    (case c14 => k_is)
    (case k14 => k_is)
    (case a15 => k_is)
    (case l15 => k_is)
    (case c15 => k_is)
    (case k15 => k_is)
    (case a16 => k_is)
    (case l16 => k_is)
    (case c16 => k_is)
    (case k16 => k_is)
    (case a17 => k_is)
    (case l17 => k_is)
    (case c17 => k_is)
    (case k17 => k_is)
    (case a18 => k_is)
    (case l18 => k_is)
    (case c18 => k_is)
    (case k18 => k_is)
    (case a19 => k_is)
    (case l19 => k_is)
    (case c19 => k_is)
    (case k19 => k_is)
    (case a20 => k_is)
    (case l20 => k_is)
    (case c20 => k_is)
    (case k20 => k_is)
    (case a21 => k_is)
    (case l21 => k_is)
    (case c21 => k_is)
    (case k21 => k_is)
    (case a22 => k_is)
    (case l22 => k_is)
    (case c22 => k_is)
    (case k22 => k_is)
    (case a23 => k_is)
    (case l23 => k_is)
    (case c23 => k_is)
    (case k23 => k_is)
    (case z_ValueError => k_is)
    (case z_all => k_is)
    (case z_bool => k_is)
    (case z_enumerate => k_is)
    (case z_int => k_is)
    (case z_isinstance => k_is)
    (case z_len => k_is)
    (case z_list => k_is)
    (case z_range => k_is)
    (case z_sum => k_is)
    (case z_tuple => k_is)
    (case z_zip => k_is)
    (case eNestError0 => k_is)
    (case eNestError1 => k_exc)
    (case eNestError2 => k_is)
    (case eNestError3 => k_is)
    (case eNestError4 => k_is)
    (case eNestError5 => k_is)
    (case eNestError6 => k_is)
    (case eNestError7 => k_is)
    (case eNestError8 => k_is)
    (case eNestError9 => k_is)
    (case eNestError10 => k_is)
    (case eNestError11 => k_is)
    (case eNoNumber0 => k_is)
    (case eNoNumber1 => k_exc)
    (case eNoNumber2 => k_is)
    (case eNoNumber3 => k_is)
    (case eNoNumber4 => k_is)
    (case eNoNumber5 => k_is)
    (case eNoNumber6 => k_is)
    (case eNoNumber7 => k_is)
    (case eNoNumber8 => k_is)
    (case eNoNumber9 => k_is)
    (case eNoNumber10 => k_is)
    (case eNoNumber11 => k_is)
    (case r_NoNumber => dsimp only [My.ex_mk, My.ec_mk]; k_is)
    (case s_NoNumber => dsimp only [My.ex_mk, My.ec_mk]; k_is)
    (case v_NoNumber => dsimp only [My.ex_mk, My.ec_mk]; k_is)
    (case eNoText0 => k_is)
    (case eNoText1 => k_is)
    (case eNoText2 => k_is)
    (case i_NoText => dsimp only [My.ex_mk, My.ec_mk]; k_is)
    (case eNoName0 => k_is)
    (case eNoName1 => k_is)
    (case eNoName2 => k_is)
    (case i_NoName => dsimp only [My.ex_mk, My.ec_mk]; k_is)
    (case eNoStyle0 => k_is)
    (case eNoStyle1 => k_is)
    (case eNoStyle2 => k_is)
    (case i_NoStyle => dsimp only [My.ex_mk, My.ec_mk]; k_is)
    (case eNoTrack0 => k_is)
    (case eNoTrack1 => k_is)
    (case eNoTrack2 => k_is)
    (case i_NoTrack => dsimp only [My.ex_mk, My.ec_mk]; k_is)
    (case eNoAsk0 => k_is)
    (case eNoAsk1 => k_is)
    (case eNoAsk2 => k_is)
    (case i_NoAsk => dsimp only [My.ex_mk, My.ec_mk]; k_is)
    (case eNoTree0 => k_is)
    (case eNoTree1 => k_is)
    (case eNoTree2 => k_is)
    (case i_NoTree => dsimp only [My.ex_mk, My.ec_mk]; k_is)
    (case eNoPlace0 => k_is)
    (case eNoPlace1 => k_is)
    (case eNoPlace2 => k_is)
    (case i_NoPlace => dsimp only [My.ex_mk, My.ec_mk]; k_is)
    (case eNoBox0 => k_is)
    (case eNoBox1 => k_is)
    (case eNoBox2 => k_is)
    (case i_NoBox => dsimp only [My.ex_mk, My.ec_mk]; k_is)
#print axioms PySem.Challenge.cw_nestlaid_k02_what_cannot_be_dealt_holds
