import PyProof.Rows.All
import Wide.All
import OpenK.AllK
import Wide.FinOn
import HandS.ForMost
import HandS.ForExc
import HandS.Wide
import HandS.IsInst
import HandS.Defaults
import HandS.MakeKwOnly
import HandS.Flow
import HandS.EndBits
import HandS.Style
import HandS.Conv
import HandS.Deep
import HandS.Codes
import PyProof.StrOps2
import HandS.ReplaceLit
import HandS.Iter
import HandS.SortKw
import KE.DataMinMax
import HandS.More
import HandS.DeepEq
import PyProof.NeKinds
import HandS.Text
import PySem.Challenge.RW_nestlaid_k14_whole_wider_and_wider
set_option Elab.async false
set_option linter.all false
set_option maxRecDepth 100000
set_option maxHeartbeats 4000000
namespace My
open PySem PySem.Spec PyProof.Rows L2
/-! ### a def of the top, with its facts -/
structure Df (K : PySem.W.Frag) (mg : Str → Option Value) (x : Str) (st : Stmt) (ps : List Str) where
  f : Addr
  fd : FuncData
  F : Fun K x x st f fd
  b : Binds K fd ps []
  g : mg x = some (.ref f)
def df_mk {K : PySem.W.Frag} {mg : Str → Option Value} {x : Str} {st : Stmt} {ps : List Str} {h : Heap} (X : K.In h) (G : h.Ns mainGlobals mg) {f : Addr} {oc : Value} {od an : Option Addr} {osl : Array (Option Value)} {kV doc pm cdv ct : Value}
    (a : PySem.W.nsIn K mainGlobals x = some (some (.ref f))) (l : K.lookup f = some ⟨oc, od, .func (PySem.W.fnOf x x (defArgs st) (defBody st) (defScope st) .none kV doc pm an cdv ct), osl⟩)
    (c : PySem.W.codeIn K cdv x = true) (k : PySem.W.keepIn K (.ref f) = true)
    (hb : ∀ (kV doc pm : Value) (an : Option Addr) (cdv ct : Value) (us : List Value), us.length = ps.length → bindArgs (PySem.W.fnOf x x (defArgs st) (defBody st) (defScope st) .none kV doc pm an cdv ct) ⟨us, []⟩ = pure (ps.zip us)) : Df K mg x st ps :=
  ⟨f, _, fun_mk l c k, (fun_mk l c k).binds hb, PySem.W.mg_of X G a⟩
/-! ### calls by keywords alone -/
theorem vals_getD : ∀ {zs : List V} {ws : List Value}, Vals zs ws → ∀ i : Nat, RelV (zs.getD i .non) (ws.getD i .none)
  | _, _, .nil, i => rfl
  | _, _, .cons r t, 0 => r
  | _, _, .cons r t, i + 1 => by simpa using vals_getD t i
section
variable {X : Cx} {CX : CXT} {k n : Nat} {f C : Addr} {fd : FuncData} {ps ks : List Str} {sp : Sp} {E : XK} {x : Str} {p pos : Pos} {kws : List Keyword} {t tk : TA} {g : List Value → List Value → List Value} {gV : List V → List V → List V}
/-- f(k = v, ..) -/
theorem pe_callN0 (F : FnOk X.prog X.w X.K X.mg X.base CX k f fd ps sp) (hr : Room k X.A) (hg : Gl X x) (hm : X.mg x = some (.ref f)) (hk : PySem.W.keepIn X.K (.ref f) = true) (hb : KBn X.K fd ps 0 ks g gV) (hx : Passes CX X E) (hkw : PK X kws tk)
    (hall : (backToKw pos (keywordEach kws X.env)).all (·.1.isSome) = true := by rfl) (hks : (backToKw pos (keywordEach kws X.env)).filterMap (·.1) = ks := by rfl) (hdb : (x == ("__debug__" : Str)) = false := by decide)
    (hpl : ((backTo pos (starEach [] X.env)).any (·.1) || (backToKw pos (keywordEach kws X.env)).any (·.1.isNone)) = false := by rfl) :
    PE X (.Call (.Name x p) [] kws pos) (tCallN 0 ks.length sp gV E tNil tk) := by
  refine ⟨fun pins s σ H Q I h => ?_⟩
  refine wpAny_Call_Name_kw (ld_glob I hg hm ?_ hdb)
  refine PySem.W.callWith_KW0 (h₀ := X.base) I.ok.mod.kin hk hall ?_ hpl
  refine thn (hkw.run pos pins s σ H _ I h) fun ws s2 ⟨zs, H2, I2, rz, l1, l2, q2⟩ => ⟨I2.kIn, ?_⟩
  rw [hks]
  exact run_fnN (us := []) (vs := []) F hr hb hx I2 .nil rz rfl l2 q2
end
/-! ### heaps -/
/-- all that was tracked but at a is as it was -/
def But (a : Addr) (H H' : Hp) : Prop := ∀ b o, b ≠ a → H b = some o → H' b = some o
theorem But.app {a b : Addr} {H H' : Hp} {o : HO} (s : But a H H') (n : b ≠ a) (h : H b = some o) : H' b = some o := s _ _ n h
theorem But.refl {a : Addr} {H : Hp} : But a H H := fun _ _ _ h => h
theorem But.trans {a : Addr} {H H1 H2 : Hp} (s : But a H H1) (t : But a H1 H2) : But a H H2 := fun b o n h => t b o n (s b o n h)
theorem But.upd {a : Addr} {H H1 : Hp} {o : HO} (s : But a H H1) : But a H (upd H1 a o) := fun b u n h => by
  rw [upd_ne n]
  exact s b u n h
theorem But.new {a p : Addr} {H H1 : Hp} {o : HO} (s : But a H H1) (h : H1 p = none) : But a H (L2.upd H1 p o) := fun b u n e => by
  have e1 := s b u n e
  rw [upd_ne (ne_of_none e1 h)]
  exact e1
theorem Same.but {a : Addr} {H H1 : Hp} (s : Same H H1) : But a H H1 := fun b u n h => s b u h
theorem Same.app {b : Addr} {H H' : Hp} {o : HO} (s : Same H H') (h : H b = some o) : H' b = some o := s _ _ h
theorem Same.new {H H1 : Hp} {p : Addr} {o : HO} (s : Same H H1) (h : H1 p = none) : Same H (upd H1 p o) := fun b u e => by
  have e1 := s b u e
  rw [upd_ne (ne_of_none e1 h)]
  exact e1
theorem Same.mut {H H1 : Hp} {p : Addr} {o : HO} (s : Same H H1) (h : H p = none) : Same H (upd H1 p o) := fun b u e => by
  rw [upd_ne (ne_of_none e h)]
  exact s b u e
theorem But.seq {K : PySem.W.Frag} {H H' : Hp} {a b : Addr} {xs : List V} (e : But a H H') (n : b ≠ a) (h : SqL K H b xs) : SqL K H' b xs := by
  rcases h with (h | ⟨o, h⟩) | h
  · exact .inl (.inl (e _ _ n h))
  · exact .inl (.inr ⟨o, e _ _ n h⟩)
  · exact .inr h
theorem upd_keep {H : Hp} {a p : Addr} {o u : HO} (n : H p = none) (h : H a = some o) : upd H p u a = some o := (upd_ne (ne_of_none h n)).trans h
theorem Same.upd0 {H : Hp} {p : Addr} {o : HO} (n : H p = none) : Same H (upd H p o) := fun b u e => upd_keep n e
theorem sqL {K : PySem.W.Frag} {H : Hp} {a : Addr} {xs : List V} (h : H a = some (.lst xs)) : SqL K H a xs := .inl (.inl h)
theorem sqT {K : PySem.W.Frag} {H : Hp} {a : Addr} {xs : List V} (h : H a = some (.tup xs)) : SqT K H a xs := .inl (.inl h)
/-! ### new and changed objects, the heap behind them by a name -/
def New (H : Hp) (o : HO) (Q : VK) : Prop := ∀ p H', H p = none → Same H H' → H' p = some o → Q (.ref p) H'
theorem New.go {H : Hp} {o : HO} {Q : VK} (h : New H o Q) : ∀ p, H p = none → Q (.ref p) (upd H p o) := fun p n => h p _ n (Same.upd0 n) upd_same
/-- what stands at l becomes o -/
def Set1 (H : Hp) (l : Addr) (o : HO) (q : Hp → Prop) : Prop := ∀ H', But l H H' → H' l = some o → q H'
theorem Set1.go {H : Hp} {l : Addr} {o : HO} {q : Hp → Prop} (h : Set1 H l o q) : q (upd H l o) := h _ But.refl.upd upd_same
theorem pe_imp {X : Cx} {e : Expr} {t t' : TE} (h : PE X e t) (i : ∀ σ H Q, t' σ H Q → t σ H Q) : PE X e t' := ⟨fun pins s σ H Q I h' => h.run pins s σ H Q I (i _ _ _ h')⟩
theorem opR_imp {X : Cx} {f : Value → Value → Sem Value} {r r' : R2} (h : OpR X f r) (i : ∀ x y H Q, r' x y H Q → r x y H Q) : OpR X f r' := fun pins s σ H x y v u Q I rx ry q => h pins s σ H x y v u Q I rx ry (i _ _ _ _ q)
theorem callR_imp {X : Cx} {f : Value} {r r' : List V → Hp → VK → Prop} (h : CallR X f r) (i : ∀ xs H Q, r' xs H Q → r xs H Q) : CallR X f r' := fun pins s σ H xs us Q I rx q => h pins s σ H xs us Q I rx (i _ _ _ q)
theorem slR_imp {X : Cx} {r r' : V → Option Int → Option Int → Hp → VK → Prop} (h : SlR X r) (i : ∀ x lo hi H Q, r' x lo hi H Q → r x lo hi H Q) : SlR X r' := fun pins s σ H x v vl vu lo hi sl Q I rx a b c q => h pins s σ H x v vl vu lo hi sl Q I rx a b c (i _ _ _ _ _ q)
theorem mtM_imp {X : Cx} {id : String} {r r' : V → List V → Hp → VK → Prop} (h : MtM X id r) (i : ∀ x xs H Q, r' x xs H Q → r x xs H Q) : MtM X id r' := fun pins s σ H x xs v us Q I rx rv q => h pins s σ H x xs v us Q I rx rv (i _ _ _ _ q)
theorem pSet_imp {X : Cx} {r r' : TSet} (h : PSet X r) (i : ∀ x y z H Q, r' x y z H Q → r x y z H Q) : PSet X r' := fun pins s σ H o i' v ov iv u Q I a b c q => h pins s σ H o i' v ov iv u Q I a b c (i _ _ _ _ _ q)
section
variable {X : Cx} {es : List Expr} {t : TA} {pos : Pos}
/-- a tuple, a list -/
def tTupA (t : TA) : TE := fun σ H Q => t σ H fun xs H1 => xs.length ≤ sizeLine ∧ New H1 (.tup xs) Q
def tLstA (t : TA) : TE := fun σ H Q => t σ H fun xs H1 => xs.length ≤ sizeLine ∧ New H1 (.lst xs) Q
theorem pe_tupA {x1} (h : PA X es t) : PE X (.Tuple es x1 pos) (tTupA t) := by
  refine ⟨fun pins s σ H Q I hq => ?_⟩
  refine wpAny_Tuple_spliced (thn (h.run pos pins s σ H _ I hq) fun us s1 ⟨xs, H1, I1, r, z, q⟩ => ⟨by rw [← r.length]; exact z, ?_⟩)
  have hf : H1 s1.heap.objs.size = none := I1.hok.fresh (Nat.le_refl _)
  refine ⟨.ref s1.heap.objs.size, upd H1 s1.heap.objs.size (.tup xs), I1.laid (t' := s1.toks) (fun b u e => Heap.get?_push_of_some _ e) (Nat.le_refl _) ?_, rfl, q.go _ hf⟩
  exact ⟨z, us, r, ⟨_, Heap.get?_push_size _ rfl, rfl, _, rfl⟩⟩
theorem pe_lstA (h : PA X es t) : PE X (.List es pos) (tLstA t) := by
  refine ⟨fun pins s σ H Q I hq => ?_⟩
  refine wpAny_List_spliced (thn (h.run pos pins s σ H _ I hq) fun us s1 ⟨xs, H1, I1, r, z, q⟩ => ⟨by rw [← r.length]; exact z, ?_⟩)
  have hf : H1 s1.heap.objs.size = none := I1.hok.fresh (Nat.le_refl _)
  refine ⟨.ref s1.heap.objs.size, upd H1 s1.heap.objs.size (.lst xs), I1.laid (t' := s1.toks) (fun b u e => Heap.get?_push_of_some _ e) (Nat.le_refl _) ?_, rfl, q.go _ hf⟩
  exact ⟨z, us, 0, r, Heap.get?_push_size _ rfl⟩
def tDNewA : TE := fun _ H Q => New H (.dK []) Q
theorem pe_dnewA : PE X (.Dict [] [] pos) tDNewA := pe_imp pe_dnewK fun _ _ _ h => h.go
/-- list + list, list * n -/
def rCatA (K : PySem.W.Frag) : R2 := fun x y H Q => ∃ l b xs zs, x = .ref l ∧ y = .ref b ∧ H l = some (.lst xs) ∧ H b = some (.lst zs) ∧ xs.length + zs.length ≤ sizeLine ∧ New H (.lst (xs ++ zs)) Q
theorem op_catA : OpR X (binaryOp .Add) (rCatA X.K) := opR_imp op_cat fun _ _ _ _ ⟨l, b, xs, zs, e1, e2, h1, h2, z, q⟩ => ⟨l, b, xs, zs, e1, e2, h1, h2, z, q.go⟩
def rRepA : R2 := fun x y H Q => ∃ l k xs, x = .ref l ∧ y = .int k ∧ H l = some (.lst xs) ∧ -(2 ^ 63) ≤ k ∧ k < 2 ^ 63 ∧ xs.length * k.toNat ≤ sizeLine ∧ New H (.lst (List.replicate k.toNat xs).flatten) Q
theorem op_repA : OpR X (binaryOp .Mult) rRepA := opR_imp op_rep fun _ _ _ _ ⟨l, k, xs, e1, e2, h1, h2, h3, z, q⟩ => ⟨l, k, xs, e1, e2, h1, h2, h3, z, q.go⟩
def rSlA (K : PySem.W.Frag) : V → Option Int → Option Int → Hp → VK → Prop := fun x lo hi H Q => ∃ a xs, x = .ref a ∧ SqL K H a xs ∧ New H (.lst (cutV xs lo hi)) Q
theorem sl_listA : SlR X (rSlA X.K) := slR_imp sl_list fun _ _ _ _ _ ⟨a, xs, e, h1, q⟩ => ⟨a, xs, e, h1, q.go⟩
def rListA (K : PySem.W.Frag) : List V → Hp → VK → Prop := fun xs H Q => ∃ p ys, xs = [.ref p] ∧ (SqL K H p ys ∨ SqT K H p ys) ∧ New H (.lst ys) Q
theorem call_listA : CallR X (.type "list") (rListA X.K) := callR_imp call_list_of fun _ _ _ ⟨p, ys, e, h, q⟩ => ⟨p, ys, e, h, q.go⟩
/-- tuple(a list) -/
def rTupLA (K : PySem.W.Frag) : List V → Hp → VK → Prop := fun xs H Q => ∃ p ys, xs = [.ref p] ∧ SqL K H p ys ∧ New H (.tup ys) Q
theorem call_tupLA : CallR X (.type "tuple") (rTupLA X.K) := callR_imp call_tuple_of fun _ _ _ ⟨p, ys, e, h, q⟩ => ⟨p, ys, e, .inl ⟨h, q.go⟩⟩
def rSetA : V → V → V → Hp → (Hp → Prop) → Prop := fun o i v H Q => ∃ p xs k j, o = .ref p ∧ i = .int k ∧ H p = some (.lst xs) ∧ ixN xs.length k = some j ∧ Set1 H p (.lst (xs.set j v)) Q
theorem set_listA : PSet X rSetA := pSet_imp set_list fun _ _ _ _ _ ⟨p, xs, k, j, e1, e2, h1, h2, q⟩ => ⟨p, xs, k, j, e1, e2, h1, h2, q.go⟩
def rAppendA : V → List V → Hp → VK → Prop := fun x vs H Q => ∃ l xs y, x = .ref l ∧ vs = [y] ∧ H l = some (.lst xs) ∧ xs.length < sizeLine ∧ Set1 H l (.lst (xs ++ [y])) (Q .non)
def rClearA : V → List V → Hp → VK → Prop := fun x vs H Q => ∃ l xs, x = .ref l ∧ vs = [] ∧ H l = some (.lst xs) ∧ Set1 H l (.lst []) (Q .non)
theorem mt_clearA : MtM X "list.clear" rClearA := mtM_imp mt_clear fun _ _ _ _ ⟨l, xs, e1, e2, h1, q⟩ => ⟨l, xs, e1, e2, h1, q.go⟩
theorem mt_appendA : MtM X "list.append" rAppendA := mtM_imp mt_append fun _ _ _ _ ⟨l, xs, y, e1, e2, h1, h2, q⟩ => ⟨l, xs, y, e1, e2, h1, h2, q.go⟩
end
theorem cutV_mem {xs : List V} {lo hi : Option Int} {x : V} (h : x ∈ cutV xs lo hi) : x ∈ xs := List.mem_of_mem_drop (List.mem_of_mem_take h)
theorem int_of_map {ns : List Int} {i : Nat} {y : V} (h : (ns.map V.int)[i]? = some y) : ∃ z, ns[i]? = some z ∧ y = .int z := by
  rw [List.getElem?_map] at h
  cases e : ns[i]? with
  | none => rw [e] at h; cases h
  | some z => rw [e] at h; exact ⟨z, rfl, (Option.some.inj h).symm⟩
/-- the law's numbers: the first one (0 without), and some more -/
theorem cells_ints {c : Int} {ns : List Int} {lo hi : Option Int} {i : Nat} {y : V} (h : ([V.int c] ++ cutV (ns.map V.int) lo hi)[i]? = some y) : ∃ z, y = .int z := by
  have m := List.mem_of_getElem? h
  rcases List.mem_append.mp m with m | m
  · exact ⟨c, by simpa using m⟩
  · have m2 := cutV_mem m
    obtain ⟨z, _, e⟩ := List.mem_map.mp m2
    exact ⟨z, e.symm⟩
theorem cells_len {ns : List Int} {lo hi : Option Int} (h : ns.length ≤ 63) : ([V.int 0] : List V).length + (cutV (ns.map V.int) lo hi).length ≤ sizeLine := by
  have h1 := cutV_length (ns.map V.int) lo hi
  rw [List.length_map] at h1
  exact Nat.le_trans (by show 1 + _ ≤ 100; omega) (by decide)
/-! ### kinds -/
def isI : V → Bool
  | .int _ => true
  | _ => false
def isN : V → Bool
  | .int i => decide (0 ≤ i)
  | _ => false
def isB : V → Bool
  | .bl _ => true
  | _ => false
/-- a value of one of the plain kinds -/
inductive Ty7 (H : Hp) : V → String → Prop where
  | non : Ty7 H .non "NoneType"
  | bl (b : Bool) : Ty7 H (.bl b) "bool"
  | int (i : Int) : Ty7 H (.int i) "int"
  | str (x : Str) : Ty7 H (.str x) "str"
  | lst {a : Addr} {xs : List V} (h : H a = some (.lst xs)) : Ty7 H (.ref a) "list"
  | tup {a : Addr} {xs : List V} (h : H a = some (.tup xs)) : Ty7 H (.ref a) "tuple"
  | dK {a : Addr} {xs : List (Key × V)} (h : H a = some (.dK xs)) : Ty7 H (.ref a) "dict"
section
variable {K : PySem.W.Frag} {H H' : Hp} {x : V} {t : String}
theorem Ty7.tx (h : Ty7 H x t) : TyX K H x (.type t) := by
  cases h with
  | non => exact .base .non
  | bl b => exact .base (.bl b)
  | int i => exact .base (.int i)
  | str i => exact .base (.str i)
  | lst h => exact .base (.lst h)
  | tup h => exact .base (.tup h)
  | dK h => exact .base (.dK h)
theorem Ty7.ki (h : Ty7 H x t) : kitB t "int" = some (isI x || isB x) := by
  cases h <;> (simp only [isI, isB]; decide +kernel)
theorem Ty7.kb (h : Ty7 H x t) : kitB t "bool" = some (isB x) := by
  cases h <;> (simp only [isB]; decide +kernel)
theorem Ty7.kl (h : Ty7 H x t) : kitB t "list" = some (decide (t = "list")) := by
  cases h <;> decide +kernel
theorem Ty7.kt (h : Ty7 H x t) : kitB t "tuple" = some (decide (t = "tuple")) := by
  cases h <;> decide +kernel
theorem Ty7.ks (h : Ty7 H x t) : kitB t "str" = some (decide (t = "str")) := by
  cases h <;> decide +kernel
theorem Ty7.mono (h : Ty7 H x t) (s : Same H H') : Ty7 H' x t := by
  cases h with
  | non => exact .non
  | bl b => exact .bl b
  | int i => exact .int i
  | str i => exact .str i
  | lst h => exact .lst (s _ _ h)
  | tup h => exact .tup (s _ _ h)
  | dK h => exact .dK (s _ _ h)
end
theorem isI_of : ∀ {x : V}, isI x = true → ∃ i, x = .int i
  | .int i, _ => ⟨i, rfl⟩
theorem isI_bool {x : V} (h : (isI x || isB x) = true) : (!isB x) = isI x := by
  cases x <;> simp_all [isI, isB]
theorem isI_no {x : V} (h : ¬ (isI x || isB x) = true) : false = isI x := by
  cases x <;> simp_all [isI, isB]
def heldM (n l : Int) (m : Option Int) : Int := max (match m with | some m => min n m | none => n) l
def optI : Option Int → V
  | some i => .int i
  | none => .non
/-- the law's source of draws: three whole numbers -/
def src (s : Int × Int × Int) : HO := .lst [.int s.1, .int s.2.1, .int s.2.2]
/-! ### draws: only the source at a changes -/
def Src (H : Hp) (a : Addr) : Prop := ∃ s, H a = some (src s)
structure Dr (a : Addr) (H H' : Hp) : Prop where
  s : Src H' a
  b : But a H H'
theorem Dr.app {a b : Addr} {H H' : Hp} {o : HO} (d : Dr a H H') (n : b ≠ a) (h : H b = some o) : H' b = some o := d.b _ _ n h
theorem Dr.trans {a : Addr} {H H1 H2 : Hp} (d : Dr a H H1) (e : Dr a H1 H2) : Dr a H H2 := ⟨e.s, d.b.trans e.b⟩
theorem Dr.same {a : Addr} {H H1 H2 : Hp} (d : Dr a H H1) (e : Same H1 H2) : Dr a H H2 := ⟨let ⟨s, h⟩ := d.s; ⟨s, e _ _ h⟩, d.b.trans (Same.but e)⟩
theorem Dr.of {a : Addr} {H H1 : Hp} (h : Src H a) (e : Same H H1) : Dr a H H1 := ⟨let ⟨s, h⟩ := h; ⟨s, e _ _ h⟩, Same.but e⟩
theorem Dr.refl {a : Addr} {H : Hp} (h : Src H a) : Dr a H H := ⟨h, But.refl⟩
/-- a list that was not there may change -/
theorem Dr.mut {a l : Addr} {H H1 H2 : Hp} (d : Dr a H H1) (e : But l H1 H2) (n : H l = none) (na : a ≠ l) : Dr a H H2 :=
  ⟨let ⟨s, h⟩ := d.s; ⟨s, e _ _ na h⟩, fun b o nb h => e _ _ (ne_of_none h n) (d.b _ _ nb h)⟩
theorem Same.mut' {l : Addr} {H H1 H2 : Hp} (d : Same H H1) (e : But l H1 H2) (n : H l = none) : Same H H2 := fun b o h => e _ _ (ne_of_none h n) (d _ _ h)
theorem Src.same {a : Addr} {H H1 : Hp} (h : Src H a) (e : Same H H1) : Src H1 a := let ⟨s, h⟩ := h; ⟨s, e _ _ h⟩
theorem Src.but {a l : Addr} {H H1 : Hp} (h : Src H a) (e : But l H H1) (n : a ≠ l) : Src H1 a := let ⟨s, h⟩ := h; ⟨s, e _ _ n h⟩
theorem Src.ne {a p : Addr} {H : Hp} (h : Src H a) (n : H p = none) : p ≠ a := let ⟨_, h⟩ := h; (ne_of_none h n).symm
theorem Src.of {a : Addr} {H : Hp} {s : Int × Int × Int} (h : H a = some (src s)) : Src H a := ⟨s, h⟩
theorem Dr.free {a l : Addr} {H H' : Hp} (d : Dr a H H') (h : H' l = none) (n : l ≠ a) : H l = none := by
  cases q : H l with
  | none => rfl
  | some o => rw [d.b _ _ n q] at h; cases h
theorem Dr.seq {K : PySem.W.Frag} {H H' : Hp} {a b : Addr} {xs : List V} (e : Dr a H H') (n : b ≠ a) (h : SqL K H b xs) : SqL K H' b xs := e.b.seq n h
/-! ### comprehensions: P by the turn, the items so far, the heap; the item's end by a continuation of any kind -/
section
variable {K : PySem.W.Frag} {a b : Addr} {xs zs : List V} {g : TG} {tt : TT} {te : TE} {vs : List Nat} {σ : L2.St} {H1 : Hp} {D : Addr} {Qd : Hp → Prop}
/-- what an item's turn is to end in -/
abbrev LcT (g : TG) (tt : TT) (te : TE) (vs : List Nat) (σ : L2.St) (x : V) (H : Hp) (Kt : V → Hp → Prop) (Kf : Hp → Prop) : Prop :=
  g x (wipe σ vs) H fun σ2 H2 => wipe σ2 vs = wipe σ vs ∧ tt σ2 H2 fun b H3 => if b = true then te σ2 H3 Kt else Kf H3
/-- the ends of a turn -/
structure LcK (D : Addr) (P : List V → Hp → Prop) (acc : List V) (Kt : V → Hp → Prop) (Kf : Hp → Prop) : Prop where
  yes : ∀ y H4, H4 D = some (.lst acc) → acc.length < sizeLine → (∀ H5, But D H4 H5 → H5 D = some (.lst (acc ++ [y])) → P (acc ++ [y]) H5) → Kt y H4
  no : ∀ H3, H3 D = some (.lst acc) → P acc H3 → Kf H3
theorem lcL (P : Nat → List V → Hp → Prop) (h0 : ∀ H', Same H1 H' → H' D = some (.lst []) → P 0 [] H') (hD : H1 D = none) (hl : ∀ i acc H, P i acc H → SqL K H a xs)
    (hs : ∀ i x acc H Kt Kf, xs[i]? = some x → P i acc H → H D = some (.lst acc) → LcK D (P (i + 1)) acc Kt Kf → LcT g tt te vs σ x H Kt Kf)
    (hd : ∀ acc H, P xs.length acc H → H D = some (.lst acc) → Qd H) :
    ∃ W : Nat → Nat → Hp → Prop, (∃ m, W 0 m (upd H1 D (.lst []))) ∧ ∀ i m H, W i m H →
      ((Itl K a).stop i H ∧ Qd H) ∨ ((Itl K a).go i H ∧ ∃ Nx : Hp → Prop, (∀ H', Nx H' → ∃ m', m' < m ∧ W (i + 1) m' H') ∧ ∀ x H', (Itl K a).yld i H x H' → g x (wipe σ vs) H' fun σ2 H2 => wipe σ2 vs = wipe σ vs ∧ tt σ2 H2 fun b H3 =>
        if b = true then te σ2 H3 fun y H4 => ∃ acc, H4 D = some (.lst acc) ∧ acc.length < sizeLine ∧ Nx (upd H4 D (.lst (acc ++ [y]))) else Nx H3) :=
  lc_list (xs := xs) (fun i H => ∃ acc, H D = some (.lst acc) ∧ P i acc H) ⟨[], upd_same, h0 _ (Same.upd0 hD) upd_same⟩ (fun i H _ ⟨acc, _, p⟩ => hl i acc H p)
    (fun i x H hx ⟨acc, e, p⟩ => hs i x acc H _ _ hx p e ⟨fun y H4 e4 z k => ⟨acc, e4, z, acc ++ [y], upd_same, k _ But.refl.upd upd_same⟩, fun H3 e3 k => ⟨acc, e3, k⟩⟩) (fun H ⟨acc, e, p⟩ => hd acc H p e)
theorem lcT (P : Nat → List V → Hp → Prop) (h0 : ∀ H', Same H1 H' → H' D = some (.lst []) → P 0 [] H') (hD : H1 D = none) (hl : ∀ i acc H, P i acc H → SqT K H a xs)
    (hs : ∀ i x acc H Kt Kf, xs[i]? = some x → P i acc H → H D = some (.lst acc) → LcK D (P (i + 1)) acc Kt Kf → LcT g tt te vs σ x H Kt Kf)
    (hd : ∀ acc H, P xs.length acc H → H D = some (.lst acc) → Qd H) :
    ∃ W : Nat → Nat → Hp → Prop, (∃ m, W 0 m (upd H1 D (.lst []))) ∧ ∀ i m H, W i m H →
      ((Itt K a).stop i H ∧ Qd H) ∨ ((Itt K a).go i H ∧ ∃ Nx : Hp → Prop, (∀ H', Nx H' → ∃ m', m' < m ∧ W (i + 1) m' H') ∧ ∀ x H', (Itt K a).yld i H x H' → g x (wipe σ vs) H' fun σ2 H2 => wipe σ2 vs = wipe σ vs ∧ tt σ2 H2 fun b H3 =>
        if b = true then te σ2 H3 fun y H4 => ∃ acc, H4 D = some (.lst acc) ∧ acc.length < sizeLine ∧ Nx (upd H4 D (.lst (acc ++ [y]))) else Nx H3) :=
  lc_tup (xs := xs) (fun i H => ∃ acc, H D = some (.lst acc) ∧ P i acc H) ⟨[], upd_same, h0 _ (Same.upd0 hD) upd_same⟩ (fun i H _ ⟨acc, _, p⟩ => hl i acc H p)
    (fun i x H hx ⟨acc, e, p⟩ => hs i x acc H _ _ hx p e ⟨fun y H4 e4 z k => ⟨acc, e4, z, acc ++ [y], upd_same, k _ But.refl.upd upd_same⟩, fun H3 e3 k => ⟨acc, e3, k⟩⟩) (fun H ⟨acc, e, p⟩ => hd acc H p e)
theorem lcR {lo : Int} {n : Nat} (P : Nat → List V → Hp → Prop) (h0 : ∀ H', Same H1 H' → H' D = some (.lst []) → P 0 [] H') (hD : H1 D = none)
    (hs : ∀ i acc H Kt Kf, i < n → P i acc H → H D = some (.lst acc) → LcK D (P (i + 1)) acc Kt Kf → LcT g tt te vs σ (.int (lo + i)) H Kt Kf)
    (hd : ∀ acc H, P n acc H → H D = some (.lst acc) → Qd H) :
    ∃ W : Nat → Nat → Hp → Prop, (∃ m, W 0 m (upd H1 D (.lst []))) ∧ ∀ i m H, W i m H →
      ((Itr lo n).stop i H ∧ Qd H) ∨ ((Itr lo n).go i H ∧ ∃ Nx : Hp → Prop, (∀ H', Nx H' → ∃ m', m' < m ∧ W (i + 1) m' H') ∧ ∀ x H', (Itr lo n).yld i H x H' → g x (wipe σ vs) H' fun σ2 H2 => wipe σ2 vs = wipe σ vs ∧ tt σ2 H2 fun b H3 =>
        if b = true then te σ2 H3 fun y H4 => ∃ acc, H4 D = some (.lst acc) ∧ acc.length < sizeLine ∧ Nx (upd H4 D (.lst (acc ++ [y]))) else Nx H3) :=
  lc_range (fun i H => ∃ acc, H D = some (.lst acc) ∧ P i acc H) ⟨[], upd_same, h0 _ (Same.upd0 hD) upd_same⟩
    (fun i H hx ⟨acc, e, p⟩ => hs i acc H _ _ hx p e ⟨fun y H4 e4 z k => ⟨acc, e4, z, acc ++ [y], upd_same, k _ But.refl.upd upd_same⟩, fun H3 e3 k => ⟨acc, e3, k⟩⟩) (fun H ⟨acc, e, p⟩ => hd acc H p e)
/-- over enumerate: the pair is a new tuple -/
theorem lcE (P : Nat → List V → Hp → Prop) (h0 : ∀ H', Same H1 H' → H' D = some (.lst []) → P 0 [] H') (hD : H1 D = none) (hl : ∀ i acc H, P i acc H → SqL K H a xs)
    (hs : ∀ i x acc H T H' Kt Kf, xs[i]? = some x → P i acc H → H D = some (.lst acc) → H T = none → Same H H' → H' T = some (.tup [.int (i : Nat), x]) → LcK D (P (i + 1)) acc Kt Kf → LcT g tt te vs σ (.ref T) H' Kt Kf)
    (hd : ∀ acc H, P xs.length acc H → H D = some (.lst acc) → Qd H) :
    ∃ W : Nat → Nat → Hp → Prop, (∃ m, W 0 m (upd H1 D (.lst []))) ∧ ∀ i m H, W i m H →
      ((Ite K a).stop i H ∧ Qd H) ∨ ((Ite K a).go i H ∧ ∃ Nx : Hp → Prop, (∀ H', Nx H' → ∃ m', m' < m ∧ W (i + 1) m' H') ∧ ∀ x H', (Ite K a).yld i H x H' → g x (wipe σ vs) H' fun σ2 H2 => wipe σ2 vs = wipe σ vs ∧ tt σ2 H2 fun b H3 =>
        if b = true then te σ2 H3 fun y H4 => ∃ acc, H4 D = some (.lst acc) ∧ acc.length < sizeLine ∧ Nx (upd H4 D (.lst (acc ++ [y]))) else Nx H3) := by
  refine ⟨fun i m H => m = xs.length - i ∧ i ≤ xs.length ∧ ∃ acc, H D = some (.lst acc) ∧ P i acc H, ⟨xs.length, rfl, Nat.zero_le _, [], upd_same, h0 _ (Same.upd0 hD) upd_same⟩, ?_⟩
  rintro i m H ⟨rfl, hi, acc, e, p⟩
  have q := hl i acc H p
  by_cases hlt : i < xs.length
  · refine .inr ⟨⟨xs, xs[i], q, by simp [hlt]⟩, fun H => ∃ acc, H D = some (.lst acc) ∧ P (i + 1) acc H, fun H' p' => ⟨xs.length - (i + 1), by omega, rfl, hlt, p'⟩, fun v H' y => ?_⟩
    obtain ⟨T, x, rfl, nT, rfl, hx⟩ := y
    exact hs i x acc H T _ _ _ (hx xs q) p e nT (Same.upd0 nT) upd_same ⟨fun y H4 e4 z k => ⟨acc, e4, z, acc ++ [y], upd_same, k _ But.refl.upd upd_same⟩, fun H3 e3 k => ⟨acc, e3, k⟩⟩
  · have ei : i = xs.length := by omega
    subst ei
    exact .inl ⟨⟨xs, q, Nat.le_refl _⟩, hd acc H p e⟩
/-- over zip of two lists of one length -/
theorem lcZ (hlen : xs.length = zs.length) (P : Nat → List V → Hp → Prop) (h0 : ∀ H', Same H1 H' → H' D = some (.lst []) → P 0 [] H') (hD : H1 D = none) (hl : ∀ i acc H, P i acc H → SqL K H a xs ∧ SqL K H b zs)
    (hs : ∀ i x z acc H T H' Kt Kf, xs[i]? = some x → zs[i]? = some z → P i acc H → H D = some (.lst acc) → H T = none → Same H H' → H' T = some (.tup [x, z]) → LcK D (P (i + 1)) acc Kt Kf → LcT g tt te vs σ (.ref T) H' Kt Kf)
    (hd : ∀ acc H, P xs.length acc H → H D = some (.lst acc) → Qd H) :
    ∃ W : Nat → Nat → Hp → Prop, (∃ m, W 0 m (upd H1 D (.lst []))) ∧ ∀ i m H, W i m H →
      ((Itz K a b).stop i H ∧ Qd H) ∨ ((Itz K a b).go i H ∧ ∃ Nx : Hp → Prop, (∀ H', Nx H' → ∃ m', m' < m ∧ W (i + 1) m' H') ∧ ∀ x H', (Itz K a b).yld i H x H' → g x (wipe σ vs) H' fun σ2 H2 => wipe σ2 vs = wipe σ vs ∧ tt σ2 H2 fun b H3 =>
        if b = true then te σ2 H3 fun y H4 => ∃ acc, H4 D = some (.lst acc) ∧ acc.length < sizeLine ∧ Nx (upd H4 D (.lst (acc ++ [y]))) else Nx H3) := by
  refine ⟨fun i m H => m = xs.length - i ∧ i ≤ xs.length ∧ ∃ acc, H D = some (.lst acc) ∧ P i acc H, ⟨xs.length, rfl, Nat.zero_le _, [], upd_same, h0 _ (Same.upd0 hD) upd_same⟩, ?_⟩
  rintro i m H ⟨rfl, hi, acc, e, p⟩
  obtain ⟨q1, q2⟩ := hl i acc H p
  by_cases hlt : i < xs.length
  · have hlt2 : i < zs.length := by omega
    refine .inr ⟨⟨xs, zs, xs[i], zs[i], q1, q2, by simp [hlt], by simp [hlt2]⟩, fun H => ∃ acc, H D = some (.lst acc) ∧ P (i + 1) acc H, fun H' p' => ⟨xs.length - (i + 1), by omega, rfl, hlt, p'⟩, fun v H' y => ?_⟩
    obtain ⟨T, x, z, rfl, nT, rfl, hx, hz⟩ := y
    exact hs i x z acc H T _ _ _ (hx xs q1) (hz zs q2) p e nT (Same.upd0 nT) upd_same ⟨fun y H4 e4 z k => ⟨acc, e4, z, acc ++ [y], upd_same, k _ But.refl.upd upd_same⟩, fun H3 e3 k => ⟨acc, e3, k⟩⟩
  · have ei : i = xs.length := by omega
    subst ei
    exact .inl ⟨⟨xs, zs, q1, q2, .inl (Nat.le_refl _)⟩, hd acc H p e⟩
/-- items that hang on the item alone (what stands, stands): the list of those that are told -/
def lcYs (n : Nat) (ys : Nat → Option V) : List V := (List.range n).filterMap ys
theorem lcYs_succ (n : Nat) (ys : Nat → Option V) : lcYs (n + 1) ys = lcYs n ys ++ (ys n).toList := by
  unfold lcYs
  rw [List.range_succ, List.filterMap_append]
  cases h : ys n with
  | none => simp [h]
  | some y => simp [h]
theorem lcYs_len (n : Nat) (ys : Nat → Option V) : (lcYs n ys).length ≤ n := by
  unfold lcYs
  have := List.length_filterMap_le ys (List.range n)
  rw [List.length_range] at this
  exact this
theorem lcYs_const (n : Nat) (v : V) : lcYs n (fun _ => some v) = List.replicate n v := by
  induction n with
  | zero => rfl
  | succ n ih => rw [lcYs_succ, ih, List.replicate_succ']; rfl
/-- .. one for each item -/
theorem lcYs_map {α : Type} (f : α → V) : ∀ (xs : List α) (ys : Nat → Option V), (∀ i x, xs[i]? = some x → ys i = some (f x)) → lcYs xs.length ys = xs.map f := by
  intro xs ys h
  have key : ∀ n, n ≤ xs.length → lcYs n ys = (xs.take n).map f := by
    intro n
    induction n with
    | zero => intro _; rfl
    | succ n ih =>
      intro hn
      have hx : xs[n]? = some xs[n] := List.getElem?_eq_getElem (by omega)
      rw [lcYs_succ, ih (by omega), h n _ hx, List.take_add_one, hx, List.map_append]
      rfl
  rw [key _ (Nat.le_refl _), List.take_length]
/-- .. of those that a test keeps -/
theorem lcYs_filter {α : Type} (q : α → Bool) (f : α → V) : ∀ (xs : List α) (ys : Nat → Option V), (∀ i x, xs[i]? = some x → ys i = if q x = true then some (f x) else none) → lcYs xs.length ys = (xs.filter q).map f := by
  intro xs ys h
  have key : ∀ n, n ≤ xs.length → lcYs n ys = ((xs.take n).filter q).map f := by
    intro n
    induction n with
    | zero => intro _; rfl
    | succ n ih =>
      intro hn
      have hx : xs[n]? = some xs[n] := List.getElem?_eq_getElem (by omega)
      rw [lcYs_succ, ih (by omega), h n _ hx, List.take_add_one, hx, List.filter_append, List.map_append]
      congr 1
      cases hq : q xs[n] <;> simp [hq]
  rw [key _ (Nat.le_refl _), List.take_length]
/-- the ends of a turn that changes nothing -/
structure LcQ (H : Hp) (r : Option V) (Kt : V → Hp → Prop) (Kf : Hp → Prop) : Prop where
  yes : ∀ y H4, Same H H4 → r = some y → Kt y H4
  no : ∀ H3, Same H H3 → r = none → Kf H3
theorem lcQ_of {P : Nat → List V → Hp → Prop} {ys : Nat → Option V} {i : Nat} {acc : List V} {H H0 : Hp} {Kt : V → Hp → Prop} {Kf : Hp → Prop} (hP : P = fun i acc H => acc = lcYs i ys ∧ Same H1 H) (hD : H1 D = none) (hi : i < 100000)
    (p : P i acc H0) (e : H0 D = some (.lst acc)) (s : Same H0 H) (k : LcK D (P (i + 1)) acc Kt Kf) : LcQ H (ys i) Kt Kf := by
  subst hP
  obtain ⟨rfl, sm⟩ := p
  have hz : (lcYs i ys).length < sizeLine := Nat.lt_of_le_of_lt (lcYs_len i ys) (Nat.lt_of_lt_of_le hi (by decide))
  refine ⟨fun y H4 s4 ey => k.yes y H4 (s4 _ _ (s _ _ e)) hz fun H5 b5 _ => ⟨?_, ?_⟩, fun H3 s3 en => k.no H3 (s3 _ _ (s _ _ e)) ⟨?_, (sm.trans s).trans s3⟩⟩
  · rw [lcYs_succ, ey]; rfl
  · exact Same.mut' ((sm.trans s).trans s4) b5 hD
  · rw [lcYs_succ, en]; simp
theorem lcLq (ys : Nat → Option V) (hD : H1 D = none) (hx : SqL K H1 a xs) (hn : xs.length ≤ 100000)
    (hs : ∀ i x H Kt Kf, xs[i]? = some x → Same H1 H → LcQ H (ys i) Kt Kf → LcT g tt te vs σ x H Kt Kf)
    (hd : ∀ H, Same H1 H → H D = some (.lst (lcYs xs.length ys)) → Qd H) :
    ∃ W : Nat → Nat → Hp → Prop, (∃ m, W 0 m (upd H1 D (.lst []))) ∧ ∀ i m H, W i m H →
      ((Itl K a).stop i H ∧ Qd H) ∨ ((Itl K a).go i H ∧ ∃ Nx : Hp → Prop, (∀ H', Nx H' → ∃ m', m' < m ∧ W (i + 1) m' H') ∧ ∀ x H', (Itl K a).yld i H x H' → g x (wipe σ vs) H' fun σ2 H2 => wipe σ2 vs = wipe σ vs ∧ tt σ2 H2 fun b H3 =>
        if b = true then te σ2 H3 fun y H4 => ∃ acc, H4 D = some (.lst acc) ∧ acc.length < sizeLine ∧ Nx (upd H4 D (.lst (acc ++ [y]))) else Nx H3) :=
  lcL (fun i acc H => acc = lcYs i ys ∧ Same H1 H) (fun H' s _ => ⟨rfl, s⟩) hD (fun i acc H p => p.2.seq hx)
    (fun i x acc H Kt Kf hxi p e k => hs i x H Kt Kf hxi p.2 (lcQ_of rfl hD (by have := (List.getElem?_eq_some_iff.mp hxi).1; omega) p e (Same.refl H) k))
    (fun acc H p e => hd H p.2 (by rw [← p.1]; exact e))
theorem lcTq (ys : Nat → Option V) (hD : H1 D = none) (hx : SqT K H1 a xs) (hn : xs.length ≤ 100000)
    (hs : ∀ i x H Kt Kf, xs[i]? = some x → Same H1 H → LcQ H (ys i) Kt Kf → LcT g tt te vs σ x H Kt Kf)
    (hd : ∀ H, Same H1 H → H D = some (.lst (lcYs xs.length ys)) → Qd H) :
    ∃ W : Nat → Nat → Hp → Prop, (∃ m, W 0 m (upd H1 D (.lst []))) ∧ ∀ i m H, W i m H →
      ((Itt K a).stop i H ∧ Qd H) ∨ ((Itt K a).go i H ∧ ∃ Nx : Hp → Prop, (∀ H', Nx H' → ∃ m', m' < m ∧ W (i + 1) m' H') ∧ ∀ x H', (Itt K a).yld i H x H' → g x (wipe σ vs) H' fun σ2 H2 => wipe σ2 vs = wipe σ vs ∧ tt σ2 H2 fun b H3 =>
        if b = true then te σ2 H3 fun y H4 => ∃ acc, H4 D = some (.lst acc) ∧ acc.length < sizeLine ∧ Nx (upd H4 D (.lst (acc ++ [y]))) else Nx H3) :=
  lcT (fun i acc H => acc = lcYs i ys ∧ Same H1 H) (fun H' s _ => ⟨rfl, s⟩) hD (fun i acc H p => (show SqT K H a xs from by
      rcases hx with (h | ⟨o, h⟩) | h
      · exact .inl (.inl (p.2 _ _ h))
      · exact .inl (.inr ⟨o, p.2 _ _ h⟩)
      · exact .inr h))
    (fun i x acc H Kt Kf hxi p e k => hs i x H Kt Kf hxi p.2 (lcQ_of rfl hD (by have := (List.getElem?_eq_some_iff.mp hxi).1; omega) p e (Same.refl H) k))
    (fun acc H p e => hd H p.2 (by rw [← p.1]; exact e))
theorem lcRq {lo : Int} {n : Nat} (ys : Nat → Option V) (hD : H1 D = none) (hn : n ≤ 100000)
    (hs : ∀ i H Kt Kf, i < n → Same H1 H → LcQ H (ys i) Kt Kf → LcT g tt te vs σ (.int (lo + i)) H Kt Kf)
    (hd : ∀ H, Same H1 H → H D = some (.lst (lcYs n ys)) → Qd H) :
    ∃ W : Nat → Nat → Hp → Prop, (∃ m, W 0 m (upd H1 D (.lst []))) ∧ ∀ i m H, W i m H →
      ((Itr lo n).stop i H ∧ Qd H) ∨ ((Itr lo n).go i H ∧ ∃ Nx : Hp → Prop, (∀ H', Nx H' → ∃ m', m' < m ∧ W (i + 1) m' H') ∧ ∀ x H', (Itr lo n).yld i H x H' → g x (wipe σ vs) H' fun σ2 H2 => wipe σ2 vs = wipe σ vs ∧ tt σ2 H2 fun b H3 =>
        if b = true then te σ2 H3 fun y H4 => ∃ acc, H4 D = some (.lst acc) ∧ acc.length < sizeLine ∧ Nx (upd H4 D (.lst (acc ++ [y]))) else Nx H3) :=
  lcR (fun i acc H => acc = lcYs i ys ∧ Same H1 H) (fun H' s _ => ⟨rfl, s⟩) hD
    (fun i acc H Kt Kf hxi p e k => hs i H Kt Kf hxi p.2 (lcQ_of rfl hD (by omega) p e (Same.refl H) k))
    (fun acc H p e => hd H p.2 (by rw [← p.1]; exact e))
theorem lcEq (ys : Nat → Option V) (hD : H1 D = none) (hx : SqL K H1 a xs) (hn : xs.length ≤ 100000)
    (hs : ∀ i x T H Kt Kf, xs[i]? = some x → Same H1 H → H T = some (.tup [.int (i : Nat), x]) → LcQ H (ys i) Kt Kf → LcT g tt te vs σ (.ref T) H Kt Kf)
    (hd : ∀ H, Same H1 H → H D = some (.lst (lcYs xs.length ys)) → Qd H) :
    ∃ W : Nat → Nat → Hp → Prop, (∃ m, W 0 m (upd H1 D (.lst []))) ∧ ∀ i m H, W i m H →
      ((Ite K a).stop i H ∧ Qd H) ∨ ((Ite K a).go i H ∧ ∃ Nx : Hp → Prop, (∀ H', Nx H' → ∃ m', m' < m ∧ W (i + 1) m' H') ∧ ∀ x H', (Ite K a).yld i H x H' → g x (wipe σ vs) H' fun σ2 H2 => wipe σ2 vs = wipe σ vs ∧ tt σ2 H2 fun b H3 =>
        if b = true then te σ2 H3 fun y H4 => ∃ acc, H4 D = some (.lst acc) ∧ acc.length < sizeLine ∧ Nx (upd H4 D (.lst (acc ++ [y]))) else Nx H3) :=
  lcE (fun i acc H => acc = lcYs i ys ∧ Same H1 H) (fun H' s _ => ⟨rfl, s⟩) hD (fun i acc H p => p.2.seq hx)
    (fun i x acc H T H' Kt Kf hxi p e nT sT gT k => hs i x T H' Kt Kf hxi (p.2.trans sT) gT (lcQ_of rfl hD (by have := (List.getElem?_eq_some_iff.mp hxi).1; omega) p e sT k))
    (fun acc H p e => hd H p.2 (by rw [← p.1]; exact e))
theorem lcZq (ys : Nat → Option V) (hlen : xs.length = zs.length) (hD : H1 D = none) (hx : SqL K H1 a xs) (hz : SqL K H1 b zs) (hn : xs.length ≤ 100000)
    (hs : ∀ i x z T H Kt Kf, xs[i]? = some x → zs[i]? = some z → Same H1 H → H T = some (.tup [x, z]) → LcQ H (ys i) Kt Kf → LcT g tt te vs σ (.ref T) H Kt Kf)
    (hd : ∀ H, Same H1 H → H D = some (.lst (lcYs xs.length ys)) → Qd H) :
    ∃ W : Nat → Nat → Hp → Prop, (∃ m, W 0 m (upd H1 D (.lst []))) ∧ ∀ i m H, W i m H →
      ((Itz K a b).stop i H ∧ Qd H) ∨ ((Itz K a b).go i H ∧ ∃ Nx : Hp → Prop, (∀ H', Nx H' → ∃ m', m' < m ∧ W (i + 1) m' H') ∧ ∀ x H', (Itz K a b).yld i H x H' → g x (wipe σ vs) H' fun σ2 H2 => wipe σ2 vs = wipe σ vs ∧ tt σ2 H2 fun b H3 =>
        if b = true then te σ2 H3 fun y H4 => ∃ acc, H4 D = some (.lst acc) ∧ acc.length < sizeLine ∧ Nx (upd H4 D (.lst (acc ++ [y]))) else Nx H3) :=
  lcZ hlen (fun i acc H => acc = lcYs i ys ∧ Same H1 H) (fun H' s _ => ⟨rfl, s⟩) hD (fun i acc H p => ⟨p.2.seq hx, p.2.seq hz⟩)
    (fun i x z acc H T H' Kt Kf hxi hzi p e nT sT gT k => hs i x z T H' Kt Kf hxi hzi (p.2.trans sT) gT (lcQ_of rfl hD (by have := (List.getElem?_eq_some_iff.mp hxi).1; omega) p e sT k))
    (fun acc H p e => hd H p.2 (by rw [← p.1]; exact e))
end
/-- the items of a dict: it is held from there on (nobody else has it) -/
def iItemsN (td : TE) : TI := fun σ H R => td σ H fun x H1 => ∃ d kvs, x = .ref d ∧ H1 d = some (.dK kvs) ∧ ∀ o H2, But d H1 H2 → H2 d = some (.frz o (.dK kvs)) → R (Iti d o kvs) H2
theorem pi_itemsN {X : Cx} {e : Expr} {td : TE} {apos cpos : Pos} {elts : List Expr} {kk : Nat} {tpos : Pos} (he : PE X e td) (hbase : attributeBase e "items" X.env (eval e X.env) = eval e X.env := by rfl) (hline : (apos.endLine == cpos.line) = true := by rfl) :
    PI X (.Tuple elts kk tpos) (.Call (.Attribute e "items" apos) [] [] cpos) (iItemsN td) := by
  refine ⟨fun pins s σ H R I h => ?_⟩
  refine wpAny_Call_method (T := "dict") (id := "dict.items") hbase rfl hline F.plainAttrs_dict F.slot_dict_items F.type_dict_items (thn (he.run pins s σ H _ I h) fun u s1 ⟨x, H0, I0, rx, d, kvs, ex, hd0, q0⟩ => ?_)
  subst ex
  obtain rfl : u = Value.ref d := rx
  obtain ⟨o, I1⟩ := I0.lock hd0 trivial
  have hd : (upd H0 d (.frz o (.dK kvs))) d = some (.frz o (.dK kvs)) := upd_same
  have q := q0 o _ But.refl.upd hd
  generalize upd H0 d (.frz o (.dK kvs)) = H1 at I1 hd q
  obtain ⟨hs, hgd, hx, es, ep, vs, hdt, hsz, kv, hm⟩ := I1.frzK hd
  have hl : kvs.length = vs.length := Paired.length kv
  refine ⟨hm.dictOf.typeIs, hm.dictOf.mapOf.noDict, ?_⟩
  have I2 : Inv X pins σ H1 { s1 with heap := s1.heap.push { cls := .type "dict_items", data := .fields #[.ref d] } } := I1.kept (t' := s1.toks) fun b ob q => Heap.get?_push_of_some _ q
  have fin : wpAny (model X.prog X.w) X.A (pyIter (.ref s1.heap.objs.size)) (PIE X pins σ (.Tuple elts kk tpos) R) X.xe { s1 with heap := s1.heap.push { cls := .type "dict_items", data := .fields #[.ref d] } } := by
    refine wpAny_pyIter_items (d := d) (knd := mixKind X.prog X.w) ⟨_, Heap.get?_push_size _ rfl, rfl, rfl⟩ (hm.push _) (pi_one (tk := s1.toks) I2 _ (turn_items _ hdt) ⟨.none, .none, ?_⟩ q)
    rw [hl]
    exact Heap.get?_push_size _ rfl
  show wpAny _ _ (callWith cpos (.builtin "dict.items") [.ref d] [] []) _ X.xe s1
  exact method_meetsIn F.slot_dict_items F.entry_dict_items rfl (PySem.evalArgs_none ⟨rfl, hm.dictOf.typeIs, F.args_dict_items_1 _, _, meets_dict_items (mixKind X.prog X.w) d hs, ⟨vs, hm.dictOf⟩, fin⟩)
/-! ### loops over enumerate, zip, the items of a dict that nobody else holds -/
section
variable {K : PySem.W.Frag} {a b : Addr} {xs zs : List V} {g : TG} {tb : TS} {D : Ends} {σ : L2.St} {H : Hp}
theorem for_enum (Pv : Nat → L2.St → Hp → Prop) (h0 : Pv 0 σ H) (hl : ∀ i σ H, Pv i σ H → SqL K H a xs)
    (hs : ∀ i x T σ H H', xs[i]? = some x → Pv i σ H → H T = none → Same H H' → H' T = some (.tup [.int (i : Nat), x]) → g (.ref T) σ H' fun σ2 H2 => tb { D with nx := Pv (i + 1), ct := Pv (i + 1), bk := D.nx } σ2 H2) (hd : ∀ σ H, Pv xs.length σ H → D.nx σ H) :
    ∃ W : Nat → Nat → L2.St → Hp → Prop, (∃ m, W 0 m σ H) ∧ ∀ i m σ H, W i m σ H →
      ((Ite K a).stop i H ∧ D.nx σ H) ∨ ((Ite K a).go i H ∧ ∃ N : L2.St → Hp → Prop, (∀ σ' H', N σ' H' → ∃ m', m' < m ∧ W (i + 1) m' σ' H') ∧ ∀ v H', (Ite K a).yld i H v H' → g v σ H' fun σ2 H2 => tb { D with nx := N, ct := N, bk := D.nx } σ2 H2) := by
  refine ⟨fun i m σ H => m = xs.length - i ∧ i ≤ xs.length ∧ Pv i σ H, ⟨xs.length, rfl, Nat.zero_le _, h0⟩, ?_⟩
  rintro i m σ H ⟨rfl, hi, p⟩
  have q := hl i σ H p
  by_cases hlt : i < xs.length
  · refine .inr ⟨⟨xs, xs[i], q, by simp [hlt]⟩, Pv (i + 1), fun σ' H' p' => ⟨xs.length - (i + 1), by omega, rfl, hlt, p'⟩, fun v H' y => ?_⟩
    obtain ⟨T, x, rfl, nT, rfl, hx⟩ := y
    exact hs i x T σ H _ (hx xs q) p nT (Same.upd0 nT) upd_same
  · have ei : i = xs.length := by omega
    subst ei
    exact .inl ⟨⟨xs, q, Nat.le_refl _⟩, hd σ H p⟩
theorem for_zip (hlen : xs.length = zs.length) (Pv : Nat → L2.St → Hp → Prop) (h0 : Pv 0 σ H) (hl : ∀ i σ H, Pv i σ H → SqL K H a xs ∧ SqL K H b zs)
    (hs : ∀ i x z T σ H H', xs[i]? = some x → zs[i]? = some z → Pv i σ H → H T = none → Same H H' → H' T = some (.tup [x, z]) → g (.ref T) σ H' fun σ2 H2 => tb { D with nx := Pv (i + 1), ct := Pv (i + 1), bk := D.nx } σ2 H2) (hd : ∀ σ H, Pv xs.length σ H → D.nx σ H) :
    ∃ W : Nat → Nat → L2.St → Hp → Prop, (∃ m, W 0 m σ H) ∧ ∀ i m σ H, W i m σ H →
      ((Itz K a b).stop i H ∧ D.nx σ H) ∨ ((Itz K a b).go i H ∧ ∃ N : L2.St → Hp → Prop, (∀ σ' H', N σ' H' → ∃ m', m' < m ∧ W (i + 1) m' σ' H') ∧ ∀ v H', (Itz K a b).yld i H v H' → g v σ H' fun σ2 H2 => tb { D with nx := N, ct := N, bk := D.nx } σ2 H2) := by
  refine ⟨fun i m σ H => m = xs.length - i ∧ i ≤ xs.length ∧ Pv i σ H, ⟨xs.length, rfl, Nat.zero_le _, h0⟩, ?_⟩
  rintro i m σ H ⟨rfl, hi, p⟩
  obtain ⟨q1, q2⟩ := hl i σ H p
  by_cases hlt : i < xs.length
  · have hlt2 : i < zs.length := by omega
    refine .inr ⟨⟨xs, zs, xs[i], zs[i], q1, q2, by simp [hlt], by simp [hlt2]⟩, Pv (i + 1), fun σ' H' p' => ⟨xs.length - (i + 1), by omega, rfl, hlt, p'⟩, fun v H' y => ?_⟩
    obtain ⟨T, x, z, rfl, nT, rfl, hx, hz⟩ := y
    exact hs i x z T σ H _ (hx xs q1) (hz zs q2) p nT (Same.upd0 nT) upd_same
  · have ei : i = xs.length := by omega
    subst ei
    exact .inl ⟨⟨xs, zs, q1, q2, .inl (Nat.le_refl _)⟩, hd σ H p⟩
theorem for_items {d : Addr} {o : Obj} {kvs : List (Key × V)} (Pv : Nat → L2.St → Hp → Prop) (h0 : Pv 0 σ H) (hl : ∀ i σ H, Pv i σ H → H d = some (.frz o (.dK kvs)))
    (hs : ∀ i k v T σ H H', kvs[i]? = some (k, v) → Pv i σ H → H T = none → Same H H' → H' T = some (.tup [kV k, v]) → g (.ref T) σ H' fun σ2 H2 => tb { D with nx := Pv (i + 1), ct := Pv (i + 1), bk := D.nx } σ2 H2) (hd : ∀ σ H, Pv kvs.length σ H → D.nx σ H) :
    ∃ W : Nat → Nat → L2.St → Hp → Prop, (∃ m, W 0 m σ H) ∧ ∀ i m σ H, W i m σ H →
      ((Iti d o kvs).stop i H ∧ D.nx σ H) ∨ ((Iti d o kvs).go i H ∧ ∃ N : L2.St → Hp → Prop, (∀ σ' H', N σ' H' → ∃ m', m' < m ∧ W (i + 1) m' σ' H') ∧ ∀ v H', (Iti d o kvs).yld i H v H' → g v σ H' fun σ2 H2 => tb { D with nx := N, ct := N, bk := D.nx } σ2 H2) := by
  refine ⟨fun i m σ H => m = kvs.length - i ∧ i ≤ kvs.length ∧ Pv i σ H, ⟨kvs.length, rfl, Nat.zero_le _, h0⟩, ?_⟩
  rintro i m σ H ⟨rfl, hi, p⟩
  have q := hl i σ H p
  by_cases hlt : i < kvs.length
  · refine .inr ⟨⟨q, hlt⟩, Pv (i + 1), fun σ' H' p' => ⟨kvs.length - (i + 1), by omega, rfl, hlt, p'⟩, fun v H' y => ?_⟩
    obtain ⟨T, k, v, hx, rfl, nT, rfl⟩ := y
    exact hs i k v T σ H _ hx p nT (Same.upd0 nT) upd_same
  · have ei : i = kvs.length := by omega
    subst ei
    exact .inl ⟨⟨q, Nat.le_refl _⟩, hd σ H p⟩
end
/-! ### data, == -/
section
variable {K : PySem.W.Frag} {H H' : Hp}
theorem Same.seqT {a : Addr} {xs : List V} (e : Same H H') (h : SqT K H a xs) : SqT K H' a xs := by
  rcases h with (h | ⟨o, h⟩) | h
  · exact .inl (.inl (e _ _ h))
  · exact .inl (.inr ⟨o, e _ _ h⟩)
  · exact .inr h
mutual
theorem dp_mono (s : Same H H') : ∀ {v : V} {d : PyData}, Dp K H v d → Dp K H' v d
  | _, _, .non => .non
  | _, _, .bl b => .bl b
  | _, _, .int i => .int i
  | _, _, .str x => .str x
  | _, _, .lst h a => .lst (s.seq h) (dpAll_mono s a)
  | _, _, .tup h a => .tup (Same.seqT s h) (dpAll_mono s a)
theorem dpAll_mono (s : Same H H') : ∀ {vs : List V} {ds : List PyData}, DpAll K H vs ds → DpAll K H' vs ds
  | _, _, .nil => .nil
  | _, _, .cons h t => .cons (dp_mono s h) (dpAll_mono s t)
end
theorem dpAll_map {α : Type} {f : α → V} {g : α → PyData} (h : ∀ x, Dp K H (f x) (g x)) : ∀ xs : List α, DpAll K H (xs.map f) (xs.map g)
  | [] => .nil
  | x :: xs => .cons (h x) (dpAll_map h xs)
theorem dp_ints {a : Addr} {ns : List Int} (h : SqL K H a (ns.map V.int)) : Dp K H (.ref a) (.list (ns.map .int)) := .lst h (dpAll_map (fun i => .int i) ns)
def optD : Option Int → PyData
  | some i => .int i
  | none => .none
theorem dp_opt : ∀ x, Dp K H (optI x) (optD x)
  | some i => .int i
  | none => .non
theorem dp_opts {a : Addr} {ns : List (Option Int)} (h : SqL K H a (ns.map optI)) : Dp K H (.ref a) (.list (ns.map optD)) := .lst h (dpAll_map dp_opt ns)
end
mutual
/-- data without truths and dicts -/
def nob : PyData → Bool
  | .none | .int _ | .str _ => true
  | .bool _ | .dict _ => false
  | .list xs | .tuple xs => nobAll xs
def nobAll : List PyData → Bool
  | [] => true
  | x :: xs => nob x && nobAll xs
end
mutual
theorem eqv_iff : ∀ {d e : PyData}, nob d = true → nob e = true → (PyData.eqv d e = true ↔ d = e)
  | .none, .none, _, _ => by simp [PyData.eqv]
  | .none, .int _, _, _ => by simp [PyData.eqv]
  | .none, .str _, _, _ => by simp [PyData.eqv]
  | .none, .list _, _, _ => by simp [PyData.eqv]
  | .none, .tuple _, _, _ => by simp [PyData.eqv]
  | .int _, .none, _, _ => by simp [PyData.eqv]
  | .int _, .int _, _, _ => by simp [PyData.eqv]
  | .int _, .str _, _, _ => by simp [PyData.eqv]
  | .int _, .list _, _, _ => by simp [PyData.eqv]
  | .int _, .tuple _, _, _ => by simp [PyData.eqv]
  | .str _, .none, _, _ => by simp [PyData.eqv]
  | .str _, .int _, _, _ => by simp [PyData.eqv]
  | .str _, .str _, _, _ => by simp [PyData.eqv]
  | .str _, .list _, _, _ => by simp [PyData.eqv]
  | .str _, .tuple _, _, _ => by simp [PyData.eqv]
  | .list _, .none, _, _ => by simp [PyData.eqv]
  | .list _, .int _, _, _ => by simp [PyData.eqv]
  | .list _, .str _, _, _ => by simp [PyData.eqv]
  | .list xs, .list ys, h1, h2 => by
    have h := eqvAll_iff (xs := xs) (ys := ys) (by simpa [nob] using h1) (by simpa [nob] using h2)
    simp only [PyData.eqv, PyData.list.injEq]; exact h
  | .list _, .tuple _, _, _ => by simp [PyData.eqv]
  | .tuple _, .none, _, _ => by simp [PyData.eqv]
  | .tuple _, .int _, _, _ => by simp [PyData.eqv]
  | .tuple _, .str _, _, _ => by simp [PyData.eqv]
  | .tuple _, .list _, _, _ => by simp [PyData.eqv]
  | .tuple xs, .tuple ys, h1, h2 => by
    have h := eqvAll_iff (xs := xs) (ys := ys) (by simpa [nob] using h1) (by simpa [nob] using h2)
    simp only [PyData.eqv, PyData.tuple.injEq]; exact h
  | .bool _, _, h, _ => by simp [nob] at h
  | .dict _, _, h, _ => by simp [nob] at h
  | .none, .bool _, _, h => by simp [nob] at h
  | .none, .dict _, _, h => by simp [nob] at h
  | .int _, .bool _, _, h => by simp [nob] at h
  | .int _, .dict _, _, h => by simp [nob] at h
  | .str _, .bool _, _, h => by simp [nob] at h
  | .str _, .dict _, _, h => by simp [nob] at h
  | .list _, .bool _, _, h => by simp [nob] at h
  | .list _, .dict _, _, h => by simp [nob] at h
  | .tuple _, .bool _, _, h => by simp [nob] at h
  | .tuple _, .dict _, _, h => by simp [nob] at h
theorem eqvAll_iff : ∀ {xs ys : List PyData}, nobAll xs = true → nobAll ys = true → (PyData.eqvAll xs ys = true ↔ xs = ys)
  | [], [], _, _ => by simp [PyData.eqvAll]
  | [], _ :: _, _, _ => by simp [PyData.eqvAll]
  | _ :: _, [], _, _ => by simp [PyData.eqvAll]
  | x :: xs, y :: ys, h1, h2 => by
    simp only [nobAll, Bool.and_eq_true] at h1 h2
    have a := eqv_iff h1.1 h2.1
    have b := eqvAll_iff h1.2 h2.2
    simp only [PyData.eqvAll, Bool.and_eq_true, List.cons.injEq]
    rw [a, b]
end
theorem eqv_dec {d e : PyData} (h1 : nob d = true) (h2 : nob e = true) {b : Bool} (h : b = true ↔ d = e) : PyData.eqv d e = b := by
  have a := eqv_iff h1 h2
  cases hb : b with
  | true => rw [hb] at h; exact a.mpr (h.mp rfl)
  | false =>
    cases he : PyData.eqv d e with
    | false => rfl
    | true => have := h.mpr (a.mp he); rw [hb] at this; cases this
theorem nobAll_map {α : Type} {g : α → PyData} (h : ∀ x, nob (g x) = true) : ∀ xs : List α, nobAll (xs.map g) = true
  | [] => by simp [nobAll]
  | x :: xs => by simp only [List.map_cons, nobAll, h x, nobAll_map h xs, Bool.and_self]
theorem canLayAll0_map {α : Type} {g : α → PyData} (h : ∀ x, (g x).canLay0 = true) : ∀ xs : List α, PyData.canLayAll0 (xs.map g) = true
  | [] => by simp [PyData.canLayAll0]
  | x :: xs => by simp only [List.map_cons, PyData.canLayAll0, h x, canLayAll0_map h xs, Bool.and_self]
theorem depthAll_map {α : Type} {g : α → PyData} {m : Nat} (h : ∀ x, (g x).depth ≤ m) : ∀ xs : List α, PyData.depthAll (xs.map g) ≤ m
  | [] => by simp [PyData.depthAll]
  | x :: xs => by
    have h1 := h x
    have h2 := depthAll_map h xs
    simp only [List.map_cons, PyData.depthAll]; omega
theorem shaped_map {α : Type} {g : α → PyData} {m : Nat} (hm : m < 64) (h1 : ∀ x, (g x).canLay0 = true) (h2 : ∀ x, (g x).depth ≤ m) (xs : List α) : SeqAt.shaped (.list (xs.map g)) = true := by
  unfold SeqAt.shaped
  rw [Bool.and_eq_true]
  refine ⟨by simp only [PyData.canLay0]; exact canLayAll0_map h1 xs, decide_eq_true ?_⟩
  have := depthAll_map h2 xs
  simp only [PyData.depth]; omega
theorem shaped_ints (ns : List Int) : SeqAt.shaped (.list (ns.map .int)) = true := shaped_map (m := 0) (by decide) (fun _ => by simp [PyData.canLay0]) (fun _ => by simp [PyData.depth]) ns
theorem shaped_opts (ns : List (Option Int)) : SeqAt.shaped (.list (ns.map optD)) = true := shaped_map (m := 0) (by decide) (fun x => by cases x <;> simp [optD, PyData.canLay0]) (fun x => by cases x <;> simp [optD, PyData.depth]) ns
theorem nob_ints (ns : List Int) : nob (.list (ns.map .int)) = true := by simp only [nob]; exact nobAll_map (fun _ => by simp [nob]) ns
theorem nob_opts (ns : List (Option Int)) : nob (.list (ns.map optD)) = true := by simp only [nob]; exact nobAll_map (fun x => by cases x <;> simp [optD, nob]) ns
theorem map_inj {α β : Type} {f : α → β} (h : ∀ a b, f a = f b → a = b) : ∀ {xs ys : List α}, xs.map f = ys.map f → xs = ys
  | [], [], _ => rfl
  | [], _ :: _, e => by simp at e
  | _ :: _, [], e => by simp at e
  | x :: xs, y :: ys, e => by
    simp only [List.map_cons, List.cons.injEq] at e
    rw [h x y e.1, map_inj h e.2]
theorem eqv_ints (ns ms : List Int) : PyData.eqv (.list (ns.map .int)) (.list (ms.map .int)) = decide (ns = ms) :=
  eqv_dec (nob_ints ns) (nob_ints ms) (by
    rw [decide_eq_true_iff]
    exact ⟨fun e => by rw [e], fun e => map_inj (fun a b h => PyData.int.inj h) (PyData.list.inj e)⟩)
theorem eqv_opts (ns ms : List (Option Int)) : PyData.eqv (.list (ns.map optD)) (.list (ms.map optD)) = decide (ns = ms) :=
  eqv_dec (nob_opts ns) (nob_opts ms) (by
    rw [decide_eq_true_iff]
    exact ⟨fun e => by rw [e], fun e => map_inj (fun a b h => by cases a <;> cases b <;> simp_all [optD]) (PyData.list.inj e)⟩)
section
variable {X : Cx}
/-- two lists of ints -/
def rEqIs (K : PySem.W.Frag) : R2 := fun x y H Q => ∃ (a b : Addr) (ns ms : List Int), x = .ref a ∧ y = .ref b ∧ SqL K H a (ns.map V.int) ∧ SqL K H b (ms.map V.int) ∧ Q (.bl (decide (ns = ms))) H
def rNeIs (K : PySem.W.Frag) : R2 := fun x y H Q => ∃ (a b : Addr) (ns ms : List Int), x = .ref a ∧ y = .ref b ∧ SqL K H a (ns.map V.int) ∧ SqL K H b (ms.map V.int) ∧ Q (.bl (!decide (ns = ms))) H
theorem op_eqIs (hu : X.A.units + 64 < cLine) : OpR X (compareOp .Eq) (rEqIs X.K) := opR_imp (op_eqD hu) fun _ _ _ _ ⟨a, b, ns, ms, e1, e2, h1, h2, q⟩ => by
  subst e1 e2
  exact ⟨_, _, dp_ints h1, dp_ints h2, shaped_ints ns, shaped_ints ms, by rw [eqv_ints]; exact q⟩
theorem op_neIs (hu : X.A.units + 64 < cLine) : OpR X (compareOp .NotEq) (rNeIs X.K) := opR_imp (op_neD hu) fun _ _ _ _ ⟨a, b, ns, ms, e1, e2, h1, h2, q⟩ => by
  subst e1 e2
  exact ⟨_, _, dp_ints h1, dp_ints h2, shaped_ints ns, shaped_ints ms, by rw [eqv_ints]; exact q⟩
end
/-! ### rules that hang on the written part, the part by its name (a comprehension's block has the same one) -/
section
variable {X : Cx} {K : PySem.W.Frag}
theorem op_notInK (h : X.K = K) : OpR X (compareOp .NotIn) (rIn K true) := h ▸ op_notIn_seq
theorem op_inK (h : X.K = K) : OpR X (compareOp .In) (rIn K false) := h ▸ op_in_seq
theorem ix_listK (h : X.K = K) : IxR X (rIxL K) := h ▸ ix_list
theorem ix_tupK (h : X.K = K) : IxR X (rIxT K) := h ▸ ix_tup
theorem ix_seqK (h : X.K = K) : IxR X (rIx K) := h ▸ ix_seq
theorem op_catK (h : X.K = K) : OpR X (binaryOp .Add) (rCatA K) := h ▸ op_catA
theorem sl_listK (h : X.K = K) : SlR X (rSlA K) := h ▸ sl_listA
theorem op_eqDK (hu : X.A.units + 64 < cLine) (h : X.K = K) : OpR X (compareOp .Eq) (rEqD K) := h ▸ op_eqD hu
theorem op_neDK (hu : X.A.units + 64 < cLine) (h : X.K = K) : OpR X (compareOp .NotEq) (rNeD K) := h ▸ op_neD hu
theorem units65 {k : Nat} {A : Around} (r : Room k A) : A.units + 65 < cLine := by have := r.un; omega
theorem op_inDK (hu : X.A.units + 65 < cLine) (h : X.K = K) : OpR X (compareOp .In) (rInD K) := h ▸ op_inD hu
theorem op_notInDK (hu : X.A.units + 65 < cLine) (h : X.K = K) : OpR X (compareOp .NotIn) (rNotInD K) := h ▸ op_notInD hu
theorem op_eqIsK (hu : X.A.units + 64 < cLine) (h : X.K = K) : OpR X (compareOp .Eq) (rEqIs K) := h ▸ op_eqIs hu
theorem op_neIsK (hu : X.A.units + 64 < cLine) (h : X.K = K) : OpR X (compareOp .NotEq) (rNeIs K) := h ▸ op_neIs hu
theorem call_isiK (h : X.K = K) : CallR X (.builtin "isinstance") (rIsi K) := h ▸ call_isi
theorem call_isiTK (h : X.K = K) : CallR X (.builtin "isinstance") (rIsiT K) := h ▸ call_isiT
def rLen (K : PySem.W.Frag) : List V → Hp → VK → Prop := fun xs H Q => ∃ x n, xs = [x] ∧ LenV K x H n ∧ Q (.int n) H
theorem call_lenK (h : X.K = K) : CallR X (.builtin "len") (rLen K) := h ▸ call_len
theorem cr_sumK (hc : X.calm = true) (h : X.K = K) : CallR X (.builtin "sum") (rSum K) := h ▸ cr_sum hc
theorem cr_maxK (hc : X.calm = true) (h : X.K = K) : CallR X (.builtin "max") (rMax K) := h ▸ cr_max hc
theorem cr_minK (hc : X.calm = true) (h : X.K = K) : CallR X (.builtin "min") (rMin K) := h ▸ cr_min hc
theorem cr_anyK (hc : X.calm = true) (h : X.K = K) : CallR X (.builtin "any") (rAny K) := h ▸ cr_any hc
theorem cr_allK (hc : X.calm = true) (h : X.K = K) : CallR X (.builtin "all") (rAll K) := h ▸ cr_all hc
theorem call_listK (h : X.K = K) : CallR X (.type "list") (rListA K) := h ▸ call_listA
theorem call_tupLK (h : X.K = K) : CallR X (.type "tuple") (rTupLA K) := h ▸ call_tupLA
theorem pe_fldK {e : Expr} {f : Str} {pos : Pos} {ta : TE} (h : X.K = K) (he : PE X e ta) (hb : attributeBase e f X.env (eval e X.env) = eval e X.env) : PE X (.Attribute e f pos) (tFld K ta f) := h ▸ pe_fld he hb
theorem pi_listK {tg l : Expr} {tl : TE} (h : X.K = K) (hl : PE X l tl) : PI X tg l (iList K tl) := h ▸ pi_list hl
theorem pi_tupK {tg l : Expr} {tl : TE} (h : X.K = K) (hl : PE X l tl) : PI X tg l (iTup K tl) := h ▸ pi_tup hl
theorem pi_enumK {e : Expr} {ta : TA} {p pos tpos : Pos} {elts : List Expr} {kk : Nat} (h : X.K = K) (hg : Gl X "enumerate") (hm : X.mg "enumerate" = none) (ha : PA X [e] ta) (hs : starEach [e] X.env = [(false, eval e X.env)] := by rfl) :
    PI X (.Tuple elts kk tpos) (.Call (.Name "enumerate" p) [e] [] pos) (iEnum K ta) := h ▸ pi_enum hg hm ha hs
theorem pi_zipK {e e2 : Expr} {ta : TA} {p pos tpos : Pos} {elts : List Expr} {kk : Nat} (h : X.K = K) (hg : Gl X "zip") (hm : X.mg "zip" = none) (ha : PA X [e, e2] ta)
    (hs : starEach [e, e2] X.env = (false, eval e X.env) :: starEach [e2] X.env := by rfl) (hpl : (backTo pos (starEach [e2] X.env)).any (·.1) = false := by rfl) :
    PI X (.Tuple elts kk tpos) (.Call (.Name "zip" p) [e, e2] [] pos) (iZip K ta) := h ▸ pi_zip hg hm ha hs hpl
end
/-- a statement with what comes behind it by a name: M holds at its end -/
theorem seq_key {t u : TS} {D : Ends} {σ : L2.St} {H : Hp} (M : L2.St → Hp → Prop) (h2 : ∀ σ H, M σ H → u D σ H) (h1 : ∀ N : L2.St → Hp → Prop, (∀ σ H, M σ H → N σ H) → t { D with nx := N } σ H) : tSeq t u D σ H := h1 _ h2
theorem isIf {a : TT} {b c d : TS} {D : Ends} {σ : L2.St} {H : Hp} (h : tSeq (tIfS a b c) d D σ H) : tSeq (tIfS a b c) d D σ H := h
theorem iteF' {c : Bool} {A B : Prop} (hc : c = false) (h : B) : if c = true then A else B := by
  subst hc; exact iteF h
theorem iteT' {c : Bool} {A B : Prop} (hc : c = true) (h : A) : if c = true then A else B := by
  subst hc; exact iteT h
theorem Dr.seqT {K : PySem.W.Frag} {H H' : Hp} {a b : Addr} {xs : List V} (e : Dr a H H') (n : b ≠ a) (h : SqT K H b xs) : SqT K H' b xs := by
  rcases h with (h | ⟨o, h⟩) | h
  · exact .inl (.inl (e.b _ _ n h))
  · exact .inl (.inr ⟨o, e.b _ _ n h⟩)
  · exact .inr h
theorem int_inj_dec {i j : Int} : decide (V.int i = V.int j) = decide (i = j) := decide_eq_decide.mpr ⟨V.int.inj, fun e => e ▸ rfl⟩
/-- an item of a short written list -/
theorem pick2 {P : V → Prop} {a b : V} {n : Int} (h0 : 0 ≤ n) (h1 : n < 2) (ha : P a) (hb : P b) : ∃ x, atI [a, b] n = some x ∧ P x := by
  have : n = 0 ∨ n = 1 := by omega
  rcases this with rfl | rfl
  · exact ⟨a, rfl, ha⟩
  · exact ⟨b, rfl, hb⟩
theorem pick3 {P : V → Prop} {a b c : V} {n : Int} (h0 : 0 ≤ n) (h1 : n < 3) (ha : P a) (hb : P b) (hc : P c) : ∃ x, atI [a, b, c] n = some x ∧ P x := by
  have : n = 0 ∨ n = 1 ∨ n = 2 := by omega
  rcases this with rfl | rfl | rfl
  · exact ⟨a, rfl, ha⟩
  · exact ⟨b, rfl, hb⟩
  · exact ⟨c, rfl, hc⟩
theorem pick4 {P : V → Prop} {a b c d : V} {n : Int} (h0 : 0 ≤ n) (h1 : n < 4) (ha : P a) (hb : P b) (hc : P c) (hd : P d) : ∃ x, atI [a, b, c, d] n = some x ∧ P x := by
  have : n = 0 ∨ n = 1 ∨ n = 2 ∨ n = 3 := by omega
  rcases this with rfl | rfl | rfl | rfl
  · exact ⟨a, rfl, ha⟩
  · exact ⟨b, rfl, hb⟩
  · exact ⟨c, rfl, hc⟩
  · exact ⟨d, rfl, hd⟩
theorem pick5 {P : V → Prop} {a b c d e : V} {n : Int} (h0 : 0 ≤ n) (h1 : n < 5) (ha : P a) (hb : P b) (hc : P c) (hd : P d) (he : P e) : ∃ x, atI [a, b, c, d, e] n = some x ∧ P x := by
  have : n = 0 ∨ n = 1 ∨ n = 2 ∨ n = 3 ∨ n = 4 := by omega
  rcases this with rfl | rfl | rfl | rfl | rfl
  · exact ⟨a, rfl, ha⟩
  · exact ⟨b, rfl, hb⟩
  · exact ⟨c, rfl, hc⟩
  · exact ⟨d, rfl, hd⟩
  · exact ⟨e, rfl, he⟩
theorem pick6 {P : V → Prop} {a b c d e f : V} {n : Int} (h0 : 0 ≤ n) (h1 : n < 6) (ha : P a) (hb : P b) (hc : P c) (hd : P d) (he : P e) (hf : P f) : ∃ x, atI [a, b, c, d, e, f] n = some x ∧ P x := by
  have : n = 0 ∨ n = 1 ∨ n = 2 ∨ n = 3 ∨ n = 4 ∨ n = 5 := by omega
  rcases this with rfl | rfl | rfl | rfl | rfl | rfl
  · exact ⟨a, rfl, ha⟩
  · exact ⟨b, rfl, hb⟩
  · exact ⟨c, rfl, hc⟩
  · exact ⟨d, rfl, hd⟩
  · exact ⟨e, rfl, he⟩
  · exact ⟨f, rfl, hf⟩
/-- an int within bounds -/
def InR (lo hi : Int) (x : V) : Prop := ∃ z, x = .int z ∧ lo ≤ z ∧ z < hi
/-! ### isinstance of plain things -/
section
variable {X : Cx}
def rIs (T : String) (ans : V → String → Bool) : List V → Hp → VK → Prop := fun xs H Q => ∃ x t, xs = [x, .ty T] ∧ Ty7 H x t ∧ Q (.bl (ans x t)) H
theorem call_isTy (T : String) (ans : V → String → Bool) (h : ∀ H x t, Ty7 H x t → kitB t T = some (ans x t)) : CallR X (.builtin "isinstance") (rIs T ans) :=
  callR_imp call_isi fun _ H Q ⟨x, t, e, ht, q⟩ => ⟨x, _, _, _, _, e, .ty _, ht.tx, kit_ty (h H x t ht), q⟩
theorem is_list : CallR X (.builtin "isinstance") (rIs "list" fun _ t => decide (t = "list")) := call_isTy _ _ fun _ _ _ h => h.kl
theorem is_tuple : CallR X (.builtin "isinstance") (rIs "tuple" fun _ t => decide (t = "tuple")) := call_isTy _ _ fun _ _ _ h => h.kt
theorem is_str : CallR X (.builtin "isinstance") (rIs "str" fun _ t => decide (t = "str")) := call_isTy _ _ fun _ _ _ h => h.ks
theorem is_int : CallR X (.builtin "isinstance") (rIs "int" fun x _ => isI x || isB x) := call_isTy _ _ fun _ _ _ h => h.ki
theorem is_bool : CallR X (.builtin "isinstance") (rIs "bool" fun x _ => isB x) := call_isTy _ _ fun _ _ _ h => h.kb
end
/-! ### comprehensions, shorter: one item for each, those that a test keeps, items that draw -/
section
variable {K : PySem.W.Frag} {a b s : Addr} {g : TG} {tt : TT} {te : TE} {vs : List Nat} {σ : L2.St} {H1 : Hp} {D : Addr} {Qd : Hp → Prop} {α β : Type}
abbrev LcG (I : It) (g : TG) (tt : TT) (te : TE) (vs : List Nat) (σ : L2.St) (H1 : Hp) (D : Addr) (Qd : Hp → Prop) : Prop :=
    ∃ W : Nat → Nat → Hp → Prop, (∃ m, W 0 m (upd H1 D (.lst []))) ∧ ∀ i m H, W i m H →
      (I.stop i H ∧ Qd H) ∨ (I.go i H ∧ ∃ Nx : Hp → Prop, (∀ H', Nx H' → ∃ m', m' < m ∧ W (i + 1) m' H') ∧ ∀ x H', I.yld i H x H' → g x (wipe σ vs) H' fun σ2 H2 => wipe σ2 vs = wipe σ vs ∧ tt σ2 H2 fun b H3 =>
        if b = true then te σ2 H3 fun y H4 => ∃ acc, H4 D = some (.lst acc) ∧ acc.length < sizeLine ∧ Nx (upd H4 D (.lst (acc ++ [y]))) else Nx H3)
def ysF (f : α → V) (q : α → Bool) (xs : List α) (i : Nat) : Option V := xs[i]?.bind fun x => if q x = true then some (f x) else none
theorem ysF_all (f : α → V) (q : α → Bool) (xs : List α) : lcYs xs.length (ysF f q xs) = (xs.filter q).map f := lcYs_filter q f xs _ fun i x h => by unfold ysF; rw [h]; rfl
theorem ysF_one (f : α → V) (xs : List α) : lcYs xs.length (ysF f (fun _ => true) xs) = xs.map f := by
  rw [ysF_all, List.filter_eq_self.mpr fun _ _ => rfl]
theorem of_map {ρ : α → V} {ys : List α} {i : Nat} {x : V} (h : (ys.map ρ)[i]? = some x) : ∃ y, ys[i]? = some y ∧ x = ρ y := by
  rw [List.getElem?_map] at h
  cases e : ys[i]? with
  | none => rw [e] at h; cases h
  | some z => rw [e] at h; exact ⟨z, rfl, (Option.some.inj h).symm⟩
theorem lcLf (ρ f : α → V) (q : α → Bool) {ys : List α} (hD : H1 D = none) (hx : SqL K H1 a (ys.map ρ)) (hn : ys.length ≤ 100000)
    (hs : ∀ (i : Nat) (y : α) (H : Hp) (Kt : V → Hp → Prop) (Kf : Hp → Prop), ys[i]? = some y → Same H1 H → (q y = true → ∀ H4, Same H H4 → Kt (f y) H4) → (q y = false → ∀ H4, Same H H4 → Kf H4) → LcT g tt te vs σ (ρ y) H Kt Kf)
    (hd : ∀ H, Same H1 H → H D = some (.lst ((ys.filter q).map f)) → Qd H) : LcG (Itl K a) g tt te vs σ H1 D Qd :=
  lcLq (ysF f q ys) hD hx (by rw [List.length_map]; exact hn) (fun i x H Kt Kf hxi s qq => by
    obtain ⟨y, hy, rfl⟩ := of_map hxi
    exact hs i y H Kt Kf hy s (fun e H4 s4 => qq.yes _ _ s4 (by unfold ysF; rw [hy]; exact if_pos e)) (fun e H4 s4 => qq.no _ s4 (by unfold ysF; rw [hy]; exact if_neg (by rw [e]; simp))))
    (fun H s h => hd H s (by rw [h, List.length_map, ysF_all]))
theorem lcLm (ρ f : α → V) {ys : List α} (hD : H1 D = none) (hx : SqL K H1 a (ys.map ρ)) (hn : ys.length ≤ 100000)
    (hs : ∀ (i : Nat) (y : α) (H : Hp) (Kt : V → Hp → Prop) (Kf : Hp → Prop), ys[i]? = some y → Same H1 H → (∀ H4, Same H H4 → Kt (f y) H4) → LcT g tt te vs σ (ρ y) H Kt Kf)
    (hd : ∀ H, Same H1 H → H D = some (.lst (ys.map f)) → Qd H) : LcG (Itl K a) g tt te vs σ H1 D Qd :=
  lcLf ρ f (fun _ => true) hD hx hn (fun i y H Kt Kf hy s h _ => hs i y H Kt Kf hy s (h rfl)) (fun H s h => hd H s (by rw [h, List.filter_eq_self.mpr fun _ _ => rfl]))
theorem lcTf (ρ f : α → V) (q : α → Bool) {ys : List α} (hD : H1 D = none) (hx : SqT K H1 a (ys.map ρ)) (hn : ys.length ≤ 100000)
    (hs : ∀ (i : Nat) (y : α) (H : Hp) (Kt : V → Hp → Prop) (Kf : Hp → Prop), ys[i]? = some y → Same H1 H → (q y = true → ∀ H4, Same H H4 → Kt (f y) H4) → (q y = false → ∀ H4, Same H H4 → Kf H4) → LcT g tt te vs σ (ρ y) H Kt Kf)
    (hd : ∀ H, Same H1 H → H D = some (.lst ((ys.filter q).map f)) → Qd H) : LcG (Itt K a) g tt te vs σ H1 D Qd :=
  lcTq (ysF f q ys) hD hx (by rw [List.length_map]; exact hn) (fun i x H Kt Kf hxi s qq => by
    obtain ⟨y, hy, rfl⟩ := of_map hxi
    exact hs i y H Kt Kf hy s (fun e H4 s4 => qq.yes _ _ s4 (by unfold ysF; rw [hy]; exact if_pos e)) (fun e H4 s4 => qq.no _ s4 (by unfold ysF; rw [hy]; exact if_neg (by rw [e]; simp))))
    (fun H s h => hd H s (by rw [h, List.length_map, ysF_all]))
theorem lcTm (ρ f : α → V) {ys : List α} (hD : H1 D = none) (hx : SqT K H1 a (ys.map ρ)) (hn : ys.length ≤ 100000)
    (hs : ∀ (i : Nat) (y : α) (H : Hp) (Kt : V → Hp → Prop) (Kf : Hp → Prop), ys[i]? = some y → Same H1 H → (∀ H4, Same H H4 → Kt (f y) H4) → LcT g tt te vs σ (ρ y) H Kt Kf)
    (hd : ∀ H, Same H1 H → H D = some (.lst (ys.map f)) → Qd H) : LcG (Itt K a) g tt te vs σ H1 D Qd :=
  lcTf ρ f (fun _ => true) hD hx hn (fun i y H Kt Kf hy s h _ => hs i y H Kt Kf hy s (h rfl)) (fun H s h => hd H s (by rw [h, List.filter_eq_self.mpr fun _ _ => rfl]))
theorem range_get {n i : Nat} (h : i < n) : (List.range n)[i]? = some i := List.getElem?_range h
theorem lcRf {lo : Int} {n : Nat} (f : Nat → V) (q : Nat → Bool) (hD : H1 D = none) (hn : n ≤ 100000)
    (hs : ∀ (i : Nat) (H : Hp) (Kt : V → Hp → Prop) (Kf : Hp → Prop), i < n → Same H1 H → (q i = true → ∀ H4, Same H H4 → Kt (f i) H4) → (q i = false → ∀ H4, Same H H4 → Kf H4) → LcT g tt te vs σ (.int (lo + i)) H Kt Kf)
    (hd : ∀ H, Same H1 H → H D = some (.lst (((List.range n).filter q).map f)) → Qd H) : LcG (Itr lo n) g tt te vs σ H1 D Qd :=
  lcRq (ysF f q (List.range n)) hD hn (fun i H Kt Kf hi s qq =>
    hs i H Kt Kf hi s (fun e H4 s4 => qq.yes _ _ s4 (by unfold ysF; rw [range_get hi]; exact if_pos e)) (fun e H4 s4 => qq.no _ s4 (by unfold ysF; rw [range_get hi]; exact if_neg (by rw [e]; simp))))
    (fun H s h => hd H s (by have := ysF_all f q (List.range n); rw [List.length_range] at this; rw [h, this]))
theorem lcRm {lo : Int} {n : Nat} (f : Nat → V) (hD : H1 D = none) (hn : n ≤ 100000)
    (hs : ∀ (i : Nat) (H : Hp) (Kt : V → Hp → Prop) (Kf : Hp → Prop), i < n → Same H1 H → (∀ H4, Same H H4 → Kt (f i) H4) → LcT g tt te vs σ (.int (lo + i)) H Kt Kf)
    (hd : ∀ H, Same H1 H → H D = some (.lst ((List.range n).map f)) → Qd H) : LcG (Itr lo n) g tt te vs σ H1 D Qd :=
  lcRf f (fun _ => true) hD hn (fun i H Kt Kf hi s h _ => hs i H Kt Kf hi s (h rfl)) (fun H s h => hd H s (by rw [h, List.filter_eq_self.mpr fun _ _ => rfl]))
/-- items that draw from the source at s -/
theorem lcRd {lo : Int} {n : Nat} (ρ : β → V) (R : Nat → β → Prop) (h0 : Src H1 s) (hD : H1 D = none) (hn : n ≤ 100000)
    (hs : ∀ (i : Nat) (H : Hp) (Kt : V → Hp → Prop) (Kf : Hp → Prop), i < n → Dr s H1 H → (∀ b H4, Dr s H H4 → R i b → Kt (ρ b) H4) → LcT g tt te vs σ (.int (lo + i)) H Kt Kf)
    (hd : ∀ (us : List β) (H : Hp), Dr s H1 H → us.length = n → (∀ (i : Nat) (b : β), us[i]? = some b → R i b) → D ≠ s → H D = some (.lst (us.map ρ)) → Qd H) : LcG (Itr lo n) g tt te vs σ H1 D Qd :=
  have nD : D ≠ s := h0.ne hD
  lcR (fun i acc H' => Dr s H1 H' ∧ ∃ us : List β, acc = us.map ρ ∧ us.length = i ∧ ∀ (i : Nat) (b : β), us[i]? = some b → R i b)
    (fun H' s' _ => ⟨Dr.of h0 s', [], rfl, rfl, fun i b h => by cases h⟩) hD (fun i acc H' Kt Kf hi p e kk => by
      obtain ⟨dp, us, rfl, hul, hub⟩ := p
      exact hs i H' Kt Kf hi dp fun b H4 d4 hR => kk.yes _ _ (d4.app nD e) (Nat.lt_of_lt_of_le (show _ < 100001 by rw [List.length_map]; omega) (by decide)) fun H5 b5 g5 => ⟨Dr.mut (dp.trans d4) b5 hD nD.symm, us ++ [b], by rw [List.map_append]; rfl, by rw [List.length_append, hul]; rfl, fun j c hc => by
        by_cases hj : j < us.length
        · rw [List.getElem?_append_left hj] at hc; exact hub j c hc
        · have hj2 : j = i := by
            have := (List.getElem?_eq_some_iff.mp hc).1
            rw [List.length_append] at this
            simp at this; omega
          subst hj2
          rw [← hul, List.getElem?_concat_length] at hc
          cases hc; exact hR⟩)
    (fun acc H' p e => by
      obtain ⟨dp, us, rfl, hul, hub⟩ := p
      exact hd us H' dp hul hub nD e)
theorem lcLd (ρ0 : α → V) (ρ : β → V) (R : Nat → β → Prop) {ys : List α} (h0 : Src H1 s) (hD : H1 D = none) (na : a ≠ s) (hx : SqL K H1 a (ys.map ρ0)) (hn : ys.length ≤ 100000)
    (hs : ∀ (i : Nat) (y : α) (H : Hp) (Kt : V → Hp → Prop) (Kf : Hp → Prop), ys[i]? = some y → Dr s H1 H → (∀ b H4, Dr s H H4 → R i b → Kt (ρ b) H4) → LcT g tt te vs σ (ρ0 y) H Kt Kf)
    (hd : ∀ (us : List β) (H : Hp), Dr s H1 H → us.length = ys.length → (∀ (i : Nat) (b : β), us[i]? = some b → R i b) → D ≠ s → H D = some (.lst (us.map ρ)) → Qd H) : LcG (Itl K a) g tt te vs σ H1 D Qd :=
  have nD : D ≠ s := h0.ne hD
  lcL (fun i acc H' => Dr s H1 H' ∧ ∃ us : List β, acc = us.map ρ ∧ us.length = i ∧ ∀ (i : Nat) (b : β), us[i]? = some b → R i b)
    (fun H' s' _ => ⟨Dr.of h0 s', [], rfl, rfl, fun i b h => by cases h⟩) hD (fun i acc H' p => p.1.seq na hx) (fun i x acc H' Kt Kf hxi p e kk => by
      obtain ⟨y, hy, rfl⟩ := of_map hxi
      have hi := (List.getElem?_eq_some_iff.mp hy).1
      obtain ⟨dp, us, rfl, hul, hub⟩ := p
      exact hs i y H' Kt Kf hy dp fun b H4 d4 hR => kk.yes _ _ (d4.app nD e) (Nat.lt_of_lt_of_le (show _ < 100001 by rw [List.length_map]; omega) (by decide)) fun H5 b5 g5 => ⟨Dr.mut (dp.trans d4) b5 hD nD.symm, us ++ [b], by rw [List.map_append]; rfl, by rw [List.length_append, hul]; rfl, fun j c hc => by
        by_cases hj : j < us.length
        · rw [List.getElem?_append_left hj] at hc; exact hub j c hc
        · have hj2 : j = i := by
            have := (List.getElem?_eq_some_iff.mp hc).1
            rw [List.length_append] at this
            simp at this; omega
          subst hj2
          rw [← hul, List.getElem?_concat_length] at hc
          cases hc; exact hR⟩)
    (fun acc H' p e => by
      obtain ⟨dp, us, rfl, hul, hub⟩ := p
      rw [List.length_map] at hul
      exact hd us H' dp hul hub nD e)
/-- items that are new objects: R holds of each, as long as nothing but the list itself changes -/
theorem lcLs (ρ0 : α → V) {ys : List α} (R : Nat → V → Hp → Prop) (mono : ∀ i v H H' acc, R i v H → H D = some (.lst acc) → But D H H' → R i v H') (hD : H1 D = none) (hx : SqL K H1 a (ys.map ρ0)) (hn : ys.length ≤ 100000)
    (hs : ∀ (i : Nat) (y : α) (H : Hp) (Kt : V → Hp → Prop) (Kf : Hp → Prop) (acc : List V), ys[i]? = some y → Same H1 H → H D = some (.lst acc) → (∀ v H4, Same H H4 → R i v H4 → Kt v H4) → LcT g tt te vs σ (ρ0 y) H Kt Kf)
    (hd : ∀ (us : List V) (H : Hp), Same H1 H → us.length = ys.length → (∀ (i : Nat) (b : V), us[i]? = some b → R i b H) → H D = some (.lst us) → Qd H) : LcG (Itl K a) g tt te vs σ H1 D Qd :=
  lcL (fun i acc H' => Same H1 H' ∧ acc.length = i ∧ ∀ (i : Nat) (b : V), acc[i]? = some b → R i b H')
    (fun H' s' _ => ⟨s', rfl, fun i b h => by cases h⟩) hD (fun i acc H' p => p.1.seq hx) (fun i x acc H' Kt Kf hxi p e kk => by
      obtain ⟨y, hy, rfl⟩ := of_map hxi
      have hi := (List.getElem?_eq_some_iff.mp hy).1
      obtain ⟨dp, hul, hub⟩ := p
      exact hs i y H' Kt Kf acc hy dp e fun b H4 s4 hR => kk.yes _ _ (s4 _ _ e) (Nat.lt_of_lt_of_le (show _ < 100001 by omega) (by decide)) fun H5 b5 g5 => ⟨Same.mut' (dp.trans s4) b5 hD, by rw [List.length_append, hul]; rfl, fun j c hc => by
        by_cases hj : j < acc.length
        · rw [List.getElem?_append_left hj] at hc
          exact mono _ _ _ _ _ (mono _ _ _ _ _ (hub j c hc) e (Same.but s4)) (s4 _ _ e) b5
        · have hj2 : j = i := by
            have := (List.getElem?_eq_some_iff.mp hc).1
            rw [List.length_append] at this
            simp at this; omega
          subst hj2
          rw [← hul, List.getElem?_concat_length] at hc
          cases hc; exact mono _ _ _ _ _ hR (s4 _ _ e) b5⟩)
    (fun acc H' p e => by
      obtain ⟨dp, hul, hub⟩ := p
      rw [List.length_map] at hul
      exact hd acc H' dp hul hub e)
/-- items that are drawn and are new objects -/
theorem lcRo {lo : Int} {n : Nat} (R : Nat → V → Hp → Prop) (monoD : ∀ i v H H' acc, R i v H → H D = some (.lst acc) → But D H H' → R i v H') (monoS : ∀ i v H H', R i v H → Src H s → Dr s H H' → R i v H') (h0 : Src H1 s) (hD : H1 D = none) (hn : n ≤ 100000)
    (hs : ∀ (i : Nat) (H : Hp) (Kt : V → Hp → Prop) (Kf : Hp → Prop) (acc : List V), i < n → Dr s H1 H → H D = some (.lst acc) → (∀ v H4, Dr s H H4 → R i v H4 → Kt v H4) → LcT g tt te vs σ (.int (lo + i)) H Kt Kf)
    (hd : ∀ (us : List V) (H : Hp), Dr s H1 H → us.length = n → (∀ (i : Nat) (b : V), us[i]? = some b → R i b H) → D ≠ s → H D = some (.lst us) → Qd H) : LcG (Itr lo n) g tt te vs σ H1 D Qd :=
  have nD : D ≠ s := h0.ne hD
  lcR (fun i acc H' => Dr s H1 H' ∧ acc.length = i ∧ ∀ (i : Nat) (b : V), acc[i]? = some b → R i b H')
    (fun H' s' _ => ⟨Dr.of h0 s', rfl, fun i b h => by cases h⟩) hD (fun i acc H' Kt Kf hi p e kk => by
      obtain ⟨dp, hul, hub⟩ := p
      exact hs i H' Kt Kf acc hi dp e fun b H4 d4 hR => kk.yes _ _ (d4.app nD e) (Nat.lt_of_lt_of_le (show _ < 100001 by omega) (by decide)) fun H5 b5 g5 => ⟨Dr.mut (dp.trans d4) b5 hD nD.symm, by rw [List.length_append, hul]; rfl, fun j c hc => by
        by_cases hj : j < acc.length
        · rw [List.getElem?_append_left hj] at hc
          exact monoD _ _ _ _ _ (monoS _ _ _ _ (hub j c hc) dp.s d4) (d4.app nD e) b5
        · have hj2 : j = i := by
            have := (List.getElem?_eq_some_iff.mp hc).1
            rw [List.length_append] at this
            simp at this; omega
          subst hj2
          rw [← hul, List.getElem?_concat_length] at hc
          cases hc; exact monoD _ _ _ _ _ hR (d4.app nD e) b5⟩)
    (fun acc H' p e => by
      obtain ⟨dp, hul, hub⟩ := p
      exact hd acc H' dp hul hub nD e)
/-- over a list that stands for another one -/
theorem lcLr {xs : List V} {qs : List α} (f : α → V) (q : α → Bool) (hl : xs.length = qs.length) (hD : H1 D = none) (hx : SqL K H1 a xs) (hn : xs.length ≤ 100000)
    (hs : ∀ (i : Nat) (x : V) (y : α) (H : Hp) (Kt : V → Hp → Prop) (Kf : Hp → Prop), xs[i]? = some x → qs[i]? = some y → Same H1 H → (q y = true → ∀ H4, Same H H4 → Kt (f y) H4) → (q y = false → ∀ H4, Same H H4 → Kf H4) → LcT g tt te vs σ x H Kt Kf)
    (hd : ∀ H, Same H1 H → H D = some (.lst ((qs.filter q).map f)) → Qd H) : LcG (Itl K a) g tt te vs σ H1 D Qd :=
  lcLq (ysF f q qs) hD hx hn (fun i x H Kt Kf hxi s qq => by
    have hi := (List.getElem?_eq_some_iff.mp hxi).1
    have hy : qs[i]? = some qs[i] := List.getElem?_eq_getElem (by omega)
    exact hs i x _ H Kt Kf hxi hy s (fun e H4 s4 => qq.yes _ _ s4 (by unfold ysF; rw [hy]; exact if_pos e)) (fun e H4 s4 => qq.no _ s4 (by unfold ysF; rw [hy]; exact if_neg (by rw [e]; simp))))
    (fun H s h => hd H s (by rw [h, hl, ysF_all]))
/-- over zip, by places -/
theorem lcZf {xs zs : List V} {n : Nat} (X Z f : Nat → V) (q : Nat → Bool) (lx : xs.length = n) (lz : zs.length = n) (hX : ∀ i, i < n → xs[i]? = some (X i)) (hZ : ∀ i, i < n → zs[i]? = some (Z i)) (hD : H1 D = none) (hx : SqL K H1 a xs) (hz : SqL K H1 b zs) (hn : n ≤ 100000)
    (hs : ∀ (i : Nat) (T : Addr) (H : Hp) (Kt : V → Hp → Prop) (Kf : Hp → Prop), i < n → Same H1 H → H T = some (.tup [X i, Z i]) → (q i = true → ∀ H4, Same H H4 → Kt (f i) H4) → (q i = false → ∀ H4, Same H H4 → Kf H4) → LcT g tt te vs σ (.ref T) H Kt Kf)
    (hd : ∀ H, Same H1 H → H D = some (.lst (((List.range n).filter q).map f)) → Qd H) : LcG (Itz K a b) g tt te vs σ H1 D Qd :=
  lcZq (xs := xs) (zs := zs) (ysF f q (List.range n)) (by rw [lx, lz]) hD hx hz (by omega) (fun i x z T H Kt Kf hxi hzi s gT qq => by
    have hi : i < n := by have := (List.getElem?_eq_some_iff.mp hxi).1; omega
    rw [hX i hi] at hxi
    rw [hZ i hi] at hzi
    cases hxi
    cases hzi
    exact hs i T H Kt Kf hi s gT (fun e H4 s4 => qq.yes _ _ s4 (by unfold ysF; rw [range_get hi]; exact if_pos e)) (fun e H4 s4 => qq.no _ s4 (by unfold ysF; rw [range_get hi]; exact if_neg (by rw [e]; simp))))
    (fun H s h => hd H s (by have := ysF_all f q (List.range n); rw [List.length_range] at this; rw [h, lx, this]))
theorem lcZm {xs zs : List V} {n : Nat} (X Z f : Nat → V) (lx : xs.length = n) (lz : zs.length = n) (hX : ∀ i, i < n → xs[i]? = some (X i)) (hZ : ∀ i, i < n → zs[i]? = some (Z i)) (hD : H1 D = none) (hx : SqL K H1 a xs) (hz : SqL K H1 b zs) (hn : n ≤ 100000)
    (hs : ∀ (i : Nat) (T : Addr) (H : Hp) (Kt : V → Hp → Prop) (Kf : Hp → Prop), i < n → Same H1 H → H T = some (.tup [X i, Z i]) → (∀ H4, Same H H4 → Kt (f i) H4) → LcT g tt te vs σ (.ref T) H Kt Kf)
    (hd : ∀ H, Same H1 H → H D = some (.lst ((List.range n).map f)) → Qd H) : LcG (Itz K a b) g tt te vs σ H1 D Qd :=
  lcZf X Z f (fun _ => true) lx lz hX hZ hD hx hz hn (fun i T H Kt Kf hi s gT h _ => hs i T H Kt Kf hi s gT (h rfl)) (fun H s h => hd H s (by rw [h, List.filter_eq_self.mpr fun _ _ => rfl]))
/-- over a list, by places -/
theorem lcLxf {xs : List V} (f : Nat → V) (q : Nat → Bool) (hD : H1 D = none) (hx : SqL K H1 a xs) (hn : xs.length ≤ 100000)
    (hs : ∀ (i : Nat) (x : V) (H : Hp) (Kt : V → Hp → Prop) (Kf : Hp → Prop), xs[i]? = some x → Same H1 H → (q i = true → ∀ H4, Same H H4 → Kt (f i) H4) → (q i = false → ∀ H4, Same H H4 → Kf H4) → LcT g tt te vs σ x H Kt Kf)
    (hd : ∀ H, Same H1 H → H D = some (.lst (((List.range xs.length).filter q).map f)) → Qd H) : LcG (Itl K a) g tt te vs σ H1 D Qd :=
  lcLq (ysF f q (List.range xs.length)) hD hx hn (fun i x H Kt Kf hxi s qq => by
    have hi := (List.getElem?_eq_some_iff.mp hxi).1
    exact hs i x H Kt Kf hxi s (fun e H4 s4 => qq.yes _ _ s4 (by unfold ysF; rw [range_get hi]; exact if_pos e)) (fun e H4 s4 => qq.no _ s4 (by unfold ysF; rw [range_get hi]; exact if_neg (by rw [e]; simp))))
    (fun H s h => hd H s (by have := ysF_all f q (List.range xs.length); rw [List.length_range] at this; rw [h, this]))
theorem lcLx {xs : List V} (f : Nat → V) (hD : H1 D = none) (hx : SqL K H1 a xs) (hn : xs.length ≤ 100000)
    (hs : ∀ (i : Nat) (x : V) (H : Hp) (Kt : V → Hp → Prop) (Kf : Hp → Prop), xs[i]? = some x → Same H1 H → (∀ H4, Same H H4 → Kt (f i) H4) → LcT g tt te vs σ x H Kt Kf)
    (hd : ∀ H, Same H1 H → H D = some (.lst ((List.range xs.length).map f)) → Qd H) : LcG (Itl K a) g tt te vs σ H1 D Qd :=
  lcLxf f (fun _ => true) hD hx hn (fun i x H Kt Kf hx s h _ => hs i x H Kt Kf hx s (h rfl)) (fun H s h => hd H s (by rw [h, List.filter_eq_self.mpr fun _ _ => rfl]))
end
theorem all_true (n : Nat) : ((List.range n).map fun _ => true).all id = true := by simp
theorem bls (n : Nat) (f : Nat → Bool) : (List.range n).map (fun i => V.bl (f i)) = ((List.range n).map f).map V.bl := by rw [List.map_map]; rfl
/-- isinstance(x, (T1, T2)) of plain things -/
def rIs2 (T1 T2 : String) (ans : V → String → Bool) : List V → Hp → VK → Prop := fun xs H Q => ∃ (x : V) (tp : Addr) (t : String), xs = [x, .ref tp] ∧ Ty7 H x t ∧ H tp = some (.tup [.ty T1, .ty T2]) ∧ Q (.bl (ans x t)) H
theorem call_isTy2 {X : Cx} (T1 T2 : String) (a1 a2 : V → String → Bool) (h1 : ∀ H x t, Ty7 H x t → kitB t T1 = some (a1 x t)) (h2 : ∀ H x t, Ty7 H x t → kitB t T2 = some (a2 x t)) : CallR X (.builtin "isinstance") (rIs2 T1 T2 fun x t => a1 x t || a2 x t) :=
  callR_imp call_isiT fun _ H Q ⟨x, tp, t, e, ht, hp, q⟩ => ⟨x, tp, [.ty T1, .ty T2], _, [.type T1, .type T2], _, e, hp, .cons (.ty _) (.cons (.ty _) .nil), ht.tx, kitAny_cons (b := a1 x t) (kit_ty (h1 H x t ht)) (fun e1 => kitAny_cons (b := a2 x t) (kit_ty (h2 H x t ht)) (fun e2 => by simp only [e1, e2]; rfl) (fun e2 => by simp only [e1, e2]; rfl)) (fun e1 => by simp only [e1]; rfl), q⟩
theorem is_strtup {X : Cx} : CallR X (.builtin "isinstance") (rIs2 "str" "tuple" fun _ t => decide (t = "str") || decide (t = "tuple")) := call_isTy2 _ _ (fun _ t => decide (t = "str")) (fun _ t => decide (t = "tuple")) (fun _ _ _ h => h.ks) (fun _ _ _ h => h.kt)
/-- a list or a tuple -/
def SqE (K : PySem.W.Frag) (H : Hp) (a : Addr) (xs : List V) : Prop := SqL K H a xs ∨ SqT K H a xs
theorem SqE.same {K : PySem.W.Frag} {H H' : Hp} {a : Addr} {xs : List V} (h : SqE K H a xs) (s : Same H H') : SqE K H' a xs := h.imp (fun h => s.seq h) (fun h => Same.seqT s h)
theorem But.seqT {K : PySem.W.Frag} {H H' : Hp} {a b : Addr} {xs : List V} (e : But a H H') (n : b ≠ a) (h : SqT K H b xs) : SqT K H' b xs := by
  rcases h with (h | ⟨o, h⟩) | h
  · exact .inl (.inl (e _ _ n h))
  · exact .inl (.inr ⟨o, e _ _ n h⟩)
  · exact .inr h
theorem SqE.but {K : PySem.W.Frag} {H H' : Hp} {a b : Addr} {xs : List V} (h : SqE K H b xs) (e : But a H H') (n : b ≠ a) : SqE K H' b xs := h.imp (fun h => e.seq n h) (fun h => e.seqT n h)
theorem ixE {K : PySem.W.Frag} {H : Hp} {a : Addr} {xs : List V} {i : Int} {v : V} {Q : VK} (h : SqE K H a xs) (e : atI xs i = some v) (q : Q v H) : rIx K (.ref a) (.int i) H Q := by
  rcases h with h | h
  · exact .inl ⟨_, _, _, _, rfl, rfl, h, e, q⟩
  · exact .inr (.inl ⟨_, _, _, _, rfl, rfl, h, e, q⟩)
theorem atI_add {xs : List V} {f i : Nat} {v : V} (h : xs[f + i]? = some v) : atI xs ((f : Int) + (i : Int)) = some v := by
  rw [← Int.natCast_add]; exact atI_nat h
theorem pick_list {α : Type} {P : V → α → Prop} : ∀ (us : List V), (∀ (i : Nat) (v : V), us[i]? = some v → ∃ t, P v t) → ∃ ts : List α, us.length = ts.length ∧ ∀ (i : Nat) (v : V) (t : α), us[i]? = some v → ts[i]? = some t → P v t
  | [], _ => ⟨[], rfl, fun i v t h => by simp at h⟩
  | u :: us, h => by
    obtain ⟨t, ht⟩ := h 0 u rfl
    obtain ⟨ts, hl, hts⟩ := pick_list us fun i v hv => h (i + 1) v hv
    refine ⟨t :: ts, by rw [List.length_cons, List.length_cons, hl], fun i v t' hv ht' => ?_⟩
    cases i with
    | zero => cases hv; cases ht'; exact ht
    | succ i => exact hts i v t' hv ht'
end My

open PySem L2 My
/-! ### short steps -/
local macro_rules | `(tactic| tm_at "hp") => `(tactic| first
  | with_reducible assumption
  | exact upd_same
  | (with_reducible refine upd_keep ?hpn ?hpr; (case hpn => with_reducible assumption); (case hpr => tm_at "hp"))
  | (refine Eq.trans (upd_ne ?hpn) ?hpr; (case hpn => tm_at "ne"); (case hpr => tm_at "hp"))
  | (refine' Same.app ?hps ?hpr; (case hps => with_reducible assumption); (case hpr => tm_at "hp"))
  | (refine' Dr.app ?hps ?hpn ?hpr; (case hps => with_reducible assumption); (case hpr => tm_at "hp"); (case hpn => tm_at "ne"))
  | (refine' But.app ?hps ?hpn ?hpr; (case hps => with_reducible assumption); (case hpr => tm_at "hp"); (case hpn => tm_at "ne")))
local macro_rules | `(tactic| tm_at "ne") => `(tactic| first
  | with_reducible assumption
  | (with_reducible refine Ne.symm ?nes; (case nes => with_reducible assumption))
  | (refine' ne_of_none ?nea ?neb; (case neb => with_reducible assumption); (case nea => tm_at "hp"))
  | (refine' Src.ne ?nea ?neb; (case neb => with_reducible assumption); (case nea => tm_at "sr"))
  | (refine' Ne.symm (Src.ne ?nea ?neb); (case neb => with_reducible assumption); (case nea => tm_at "sr"))
  | (refine' Ne.symm (ne_of_none ?nea ?neb); (case neb => with_reducible assumption); (case nea => tm_at "hp")))
/-- a list, a tuple that stands -/
local macro_rules | `(tactic| tm_at "sql") => `(tactic| first
  | with_reducible assumption
  | (refine sqL ?sqa; (case sqa => tm_at "hp"))
  | (refine' Same.seq ?sqs ?sqa; (case sqs => with_reducible assumption); (case sqa => tm_at "sql"))
  | (refine' Dr.seq ?sqs ?sqn ?sqa; (case sqs => with_reducible assumption); (case sqa => tm_at "sql"); (case sqn => tm_at "ne"))
  | (refine' But.seq ?sqs ?sqn ?sqa; (case sqs => with_reducible assumption); (case sqa => tm_at "sql"); (case sqn => tm_at "ne")))
/-- all but a stands; all stands -/
local macro_rules | `(tactic| tm_at "bt") => `(tactic| first
  | with_reducible assumption
  | with_reducible exact But.refl
  | (with_reducible refine But.upd ?btx; (case btx => tm_at "bt"))
  | (with_reducible refine But.new ?btx ?bty; (case bty => with_reducible assumption); (case btx => tm_at "bt"))
  | (refine' But.trans ?btx ?bty; (case bty => with_reducible assumption); (case btx => tm_at "bt"))
  | (refine' But.trans ?btx (Same.but ?bty); (case bty => with_reducible assumption); (case btx => tm_at "bt")))
local macro_rules | `(tactic| tm_at "sm") => `(tactic| first
  | with_reducible assumption
  | with_reducible exact Same.refl _
  | (with_reducible refine Same.new ?btx ?bty; (case bty => with_reducible assumption); (case btx => tm_at "sm"))
  | (with_reducible refine Same.mut ?btx ?bty; (case bty => with_reducible assumption); (case btx => tm_at "sm"))
  | (refine' Same.mut' ?btx ?bty ?btn; (case bty => with_reducible assumption); (case btx => tm_at "sm"); (case btn => tm_at "fr"))
  | (refine' Same.trans ?btx ?bty; (case bty => with_reducible assumption); (case btx => tm_at "sm")))
/-- the source stands; draws from there to here -/
local macro_rules | `(tactic| tm_at "sr") => `(tactic| first
  | with_reducible assumption
  | (refine' Dr.s ?srd; (case srd => with_reducible assumption))
  | (refine' Src.same ?srh ?srd; (case srd => with_reducible assumption); (case srh => tm_at "sr"))
  | (refine' Src.but ?srh ?srd ?srn; (case srd => with_reducible assumption); (case srh => tm_at "sr"); (case srn => tm_at "ne")))
local macro_rules | `(tactic| tm_at "dr") => `(tactic| first
  | with_reducible assumption
  | (refine' Dr.trans ?drx ?dry; (case dry => with_reducible assumption); (case drx => tm_at "dr"))
  | (refine' Dr.same ?drx ?dry; (case dry => with_reducible assumption); (case drx => tm_at "dr"))
  | (refine' Dr.mut ?drx ?dry ?drn ?drm; (case dry => with_reducible assumption); (case drx => tm_at "dr"); (case drn => tm_at "fr"); (case drm => tm_at "ne"))
  | (refine' Dr.of ?drx ?dry; (case drx => tm_at "sr"); (case dry => tm_at "sm"))
  | (refine Dr.refl ?drx; (case drx => tm_at "sr")))
/-- nothing stood there -/
local macro_rules | `(tactic| tm_at "fr") => `(tactic| first
  | with_reducible assumption
  | (refine' Same.free ?frs ?frh; (case frh => with_reducible assumption); (case frs => tm_at "sm"))
  | (refine' Dr.free ?frs ?frh ?frn; (case frh => with_reducible assumption); (case frs => tm_at "dr"); (case frn => tm_at "ne")))
/-- an int's condition -/
local macro_rules | `(tactic| tm_at "ic") => `(tactic| first
  | assumption
  | omega
  | exact Nat.le_of_ble_eq_true rfl
  | exact ⟨by decide, by decide +kernel⟩
  | exact Or.inr ⟨by omega, by omega⟩
  | exact Or.inl ⟨by omega, by omega⟩
  | exact Or.inr ⟨by decide, by decide⟩
  | exact ⟨by decide, by decide, by decide⟩
  | exact wide_div (b := 64) (by omega) (by omega) (by decide) (by decide)
  | decide
  | tm_at "sr")
/-- a plain thing's kind -/
local macro_rules | `(tactic| tm_at "t7") => `(tactic| first
  | with_reducible assumption
  | with_reducible exact Ty7.int _
  | with_reducible exact Ty7.bl _
  | with_reducible exact Ty7.non
  | with_reducible exact Ty7.str _
  | (refine' Ty7.lst ?t7h; (case t7h => tm_at "hp"))
  | (refine' Ty7.tup ?t7h; (case t7h => tm_at "hp")))
/-- one step of a reading -/
local macro_rules | `(tactic| tm_at "rd") => `(tactic| first
  | refine ⟨_, rfl, ?_⟩
  | refine ⟨_, _, rfl, rfl, ?_⟩
  | (refine And.intro ?rdc ?_; (case rdc => (first | tm_at "ic" | (dsimp only; tm_at "ic"))))
  | refine ⟨_, _, rfl, ?_⟩
  | refine ⟨rfl, ?_⟩
  | (refine' ⟨_, _, rfl, ?rd7, ?_⟩; (case rd7 => tm_at "t7"))
  | (refine' ⟨_, _, rfl, Or.inl ⟨_, ?rdl, rfl⟩, ?_⟩; (case rdl => tm_at "sql"))
  | refine Or.inl ⟨_, rfl, ?_⟩
  | refine Or.inr ⟨_, rfl, ?_⟩)
local macro_rules | `(tactic| tm_at "rds") => `(tactic| repeat (tm_at "rd"))
/-- a tuple that stands -/
local macro_rules | `(tactic| tm_at "sqt") => `(tactic| first
  | with_reducible assumption
  | (refine sqT ?sqa; (case sqa => tm_at "hp"))
  | (refine' Same.seqT ?sqs ?sqa; (case sqs => with_reducible assumption); (case sqa => tm_at "sqt"))
  | (refine' Dr.seqT ?sqs ?sqn ?sqa; (case sqs => with_reducible assumption); (case sqa => tm_at "sqt"); (case sqn => tm_at "ne")))
/-- more steps: tests that are plain, items by a plain index, the length of a tuple -/
local macro_rules | `(tactic| tm_at "rz") => `(tactic| first
  | (refine' And.intro (Or.inl (And.intro rfl (Exists.intro _ ?rzt))) ?_; (case rzt => tm_at "sql"))
  | tm_at "rd"
  | (refine' ⟨_, _, rfl, Or.inr ⟨_, ?rdl, rfl⟩, ?_⟩; (case rdl => tm_at "sqt"))
  | (refine' ⟨_, _, _, _, rfl, rfl, ?rzl, ?rzi, ?_⟩; (case rzl => (first | tm_at "sql" | tm_at "sqt")); (case rzi => exact rfl))
  | (refine iteF' ?rzb ?_; (case rzb => (first | with_reducible rfl | rfl | decide)))
  | (refine iteT' ?rzb ?_; (case rzb => (first | with_reducible rfl | rfl | decide))))
local macro_rules | `(tactic| tm_at "rzs") => `(tactic| repeat (tm_at "rz"))
/-- .. up to an if that has something behind it -/
local macro_rules | `(tactic| tm_at "rzi") => `(tactic| repeat ((try dsimp only [gName]); (fail_if_success (with_reducible refine isIf ?_)); tm_at "rz"))
/-! ### totals dealt by caps and weights: plain mathematics -/
namespace My
open PySem L2
/-- the sum of f over some places -/
def S (f : Nat → Int) (R : List Nat) : Int := (R.map f).sum
theorem S_nil (f : Nat → Int) : S f [] = 0 := rfl
theorem S_cons (f : Nat → Int) (i : Nat) (R : List Nat) : S f (i :: R) = f i + S f R := by unfold S; rw [List.map_cons, List.sum_cons]
theorem S_append (f : Nat → Int) (R T : List Nat) : S f (R ++ T) = S f R + S f T := by unfold S; rw [List.map_append, List.sum_append]
theorem S_nonneg {f : Nat → Int} : ∀ {R : List Nat}, (∀ i ∈ R, 0 ≤ f i) → 0 ≤ S f R
  | [], _ => Int.le_refl 0
  | i :: R, h => by
    rw [S_cons]
    have h1 := h i (List.mem_cons_self ..)
    have h2 := S_nonneg (R := R) fun j hj => h j (List.mem_cons_of_mem _ hj)
    omega
theorem S_le {f g : Nat → Int} : ∀ {R : List Nat}, (∀ i ∈ R, f i ≤ g i) → S f R ≤ S g R
  | [], _ => Int.le_refl 0
  | i :: R, h => by
    rw [S_cons, S_cons]
    have h1 := h i (List.mem_cons_self ..)
    have h2 := S_le (R := R) fun j hj => h j (List.mem_cons_of_mem _ hj)
    omega
theorem S_lt {f g : Nat → Int} : ∀ {R : List Nat}, (∀ i ∈ R, f i < g i) → R ≠ [] → S f R < S g R
  | [], _, h => absurd rfl h
  | i :: R, h, _ => by
    rw [S_cons, S_cons]
    have h1 := h i (List.mem_cons_self ..)
    have h2 := S_le (R := R) fun j hj => Int.le_of_lt (h j (List.mem_cons_of_mem _ hj))
    omega
theorem S_congr {f g : Nat → Int} : ∀ {R : List Nat}, (∀ i ∈ R, f i = g i) → S f R = S g R
  | [], _ => rfl
  | i :: R, h => by
    rw [S_cons, S_cons, h i (List.mem_cons_self ..), S_congr (R := R) fun j hj => h j (List.mem_cons_of_mem _ hj)]
theorem S_mul (c : Int) (f : Nat → Int) : ∀ R : List Nat, S (fun i => c * f i) R = c * S f R
  | [] => (Int.mul_zero c).symm
  | i :: R => by rw [S_cons, S_cons, S_mul c f R, Int.mul_add]
theorem S_mul_r (c : Int) (f : Nat → Int) : ∀ R : List Nat, S (fun i => f i * c) R = S f R * c
  | [] => (Int.zero_mul c).symm
  | i :: R => by rw [S_cons, S_cons, S_mul_r c f R, Int.add_mul]
theorem S_split (f : Nat → Int) (p : Nat → Bool) : ∀ R : List Nat, S f R = S f (R.filter p) + S f (R.filter fun i => !p i)
  | [] => rfl
  | i :: R => by
    rw [S_cons, S_split f p R, List.filter_cons, List.filter_cons]
    cases h : p i with
    | true => simp only [Bool.not_true, if_true, Bool.false_eq_true, if_false]; rw [S_cons]; omega
    | false => simp only [Bool.not_false, if_true, Bool.false_eq_true, if_false]; rw [S_cons]; omega
theorem S_bound {f : Nat → Int} {c : Int} : ∀ {R : List Nat}, (∀ i ∈ R, f i ≤ c) → S f R ≤ c * R.length
  | [], _ => by simp [S_nil]
  | i :: R, h => by
    rw [S_cons, List.length_cons]
    have h1 := h i (List.mem_cons_self ..)
    have h2 := S_bound (R := R) fun j hj => h j (List.mem_cons_of_mem _ hj)
    have e : c * ((R.length + 1 : Nat) : Int) = c * R.length + c := by rw [Int.natCast_add, Int.mul_add]; simp
    omega
abbrev natsV (ch : List Nat) : List V := ch.map fun i : Nat => V.int (i : Int)
def wAt (ws : List Int) (i : Nat) : Int := ws.getD i 0
/-! #### the level -/
/-- what the removed ones keep: cap ≤ level times weight, while the level T / W only rises -/
theorem rise {T W C V : Int} (hW : 0 < W) (hC : C * W ≤ T * V) : T * (W - V) ≤ (T - C) * W := by
  rw [Int.mul_sub, Int.sub_mul]; omega
theorem keep_cap {c w T W T' W' : Int} (hW : 0 < W) (hw : 0 ≤ w) (hW' : 0 ≤ W') (h : c * W ≤ T * w) (hr : T * W' ≤ T' * W) : c * W' ≤ T' * w := by
  have h1 : c * W * W' ≤ T * w * W' := Int.mul_le_mul_of_nonneg_right h hW'
  have h2 : T * W' * w ≤ T' * W * w := Int.mul_le_mul_of_nonneg_right hr hw
  have e1 : c * W * W' = c * W' * W := by rw [Int.mul_assoc, Int.mul_comm W W', ← Int.mul_assoc]
  have e2 : T * w * W' = T * W' * w := by rw [Int.mul_assoc, Int.mul_comm w W', ← Int.mul_assoc]
  have e3 : T' * W * w = T' * w * W := by rw [Int.mul_assoc, Int.mul_comm W w, ← Int.mul_assoc]
  exact Int.le_of_mul_le_mul_right (by rw [← e1, ← e3]; omega) hW
/-- behind the rest: what is weighed so far -/
def pre (w : Nat → Int) (p : Nat → Bool) : Nat → Int
  | 0 => 0
  | i + 1 => pre w p i + if p i then w i else 0
/-- what one gets by running sums -/
def part (t b beh w : Int) : Int := t * (beh + w) / b - t * beh / b
/-- the pairs that running tells -/
def runD (t b : Int) (w : Nat → Int) : List Nat → Int → List (Nat × Int)
  | [], _ => []
  | i :: r, beh => (i, part t b beh (w i)) :: runD t b w r (beh + w i)
theorem runD_append (t b : Int) (w : Nat → Int) (i : Nat) : ∀ (l : List Nat) (beh : Int), runD t b w (l ++ [i]) beh = runD t b w l beh ++ [(i, part t b (beh + S w l) (w i))]
  | [], beh => by simp [runD, S_nil]
  | j :: l, beh => by
    rw [List.cons_append]
    simp only [runD]
    rw [runD_append t b w i l (beh + w j), S_cons, Int.add_assoc, List.cons_append]
theorem runD_fst (t b : Int) (w : Nat → Int) : ∀ (l : List Nat) (beh : Int), (runD t b w l beh).map (·.1) = l
  | [], _ => rfl
  | i :: l, beh => by simp only [runD, List.map_cons]; rw [runD_fst t b w l]
theorem pre_eq (w : Nat → Int) (p : Nat → Bool) : ∀ n, pre w p n = S w ((List.range n).filter p)
  | 0 => rfl
  | n + 1 => by
    rw [List.range_succ, List.filter_append, S_append, ← pre_eq w p n]
    simp only [pre, List.filter_cons, List.filter_nil]
    cases p n <;> simp [S_cons, S_nil]
theorem runD_range (t b : Int) (w : Nat → Int) (p : Nat → Bool) : ∀ n, ∀ q ∈ runD t b w ((List.range n).filter p) 0, p q.1 = true ∧ q.1 < n ∧ q.2 = part t b (pre w p q.1) (w q.1)
  | 0, q, h => by simp [runD] at h
  | n + 1, q, h => by
    rw [List.range_succ, List.filter_append] at h
    cases hp : p n with
    | false =>
      rw [List.filter_cons, hp] at h
      simp only [Bool.false_eq_true, if_false, List.filter_nil, List.append_nil] at h
      obtain ⟨h1, h2, h3⟩ := runD_range t b w p n q h
      exact ⟨h1, by omega, h3⟩
    | true =>
      rw [List.filter_cons, hp] at h
      simp only [if_true, List.filter_nil] at h
      rw [runD_append] at h
      rcases List.mem_append.mp h with h | h
      · obtain ⟨h1, h2, h3⟩ := runD_range t b w p n q h
        exact ⟨h1, by omega, h3⟩
      · simp only [List.mem_singleton] at h
        subst h
        exact ⟨hp, by simp, by simp [pre_eq]⟩
/-- found, set by pairs -/
def putAll (f : List Int) (ps : List (Nat × Int)) : List Int := ps.foldl (fun f q => f.set q.1 q.2) f
theorem putAll_len : ∀ (ps : List (Nat × Int)) (f : List Int), (putAll f ps).length = f.length
  | [], _ => rfl
  | q :: ps, f => by
    show (putAll (f.set q.1 q.2) ps).length = _
    rw [putAll_len ps, List.length_set]
theorem putAll_out {i : Nat} : ∀ (ps : List (Nat × Int)) (f : List Int), i ∉ ps.map (·.1) → (putAll f ps)[i]? = f[i]?
  | [], _, _ => rfl
  | q :: ps, f, h => by
    show (putAll (f.set q.1 q.2) ps)[i]? = _
    rw [List.map_cons, List.mem_cons, not_or] at h
    rw [putAll_out ps _ h.2, List.getElem?_set_ne (fun e => h.1 e.symm)]
theorem putAll_in {g : Nat → Int} {i : Nat} : ∀ (ps : List (Nat × Int)) (f : List Int), (∀ q ∈ ps, q.2 = g q.1) → i ∈ ps.map (·.1) → i < f.length → (putAll f ps)[i]? = some (g i)
  | [], _, _, h, _ => by simp at h
  | q :: ps, f, hg, h, hl => by
    show (putAll (f.set q.1 q.2) ps)[i]? = _
    by_cases hm : i ∈ ps.map (·.1)
    · exact putAll_in ps _ (fun r hr => hg r (List.mem_cons_of_mem _ hr)) hm (by rw [List.length_set]; exact hl)
    · rw [putAll_out ps _ hm]
      rw [List.map_cons, List.mem_cons] at h
      rcases h with e | h
      · subst e
        rw [List.getElem?_set_self hl, hg q (List.mem_cons_self ..)]
      · exact absurd h hm
/-! #### the spec, and the loop -/
def capN (cap : Nat → Option Int) (i : Nat) : Int := (cap i).getD 0
/-- who has weight -/
def wtd (n : Nat) (w : Nat → Int) : List Nat := (List.range n).filter fun i => decide (0 < w i)
/-- the cap is no more than level times weight -/
def heldB (t b : Int) (w : Nat → Int) (cap : Nat → Option Int) (i : Nat) : Bool := match cap i with
  | some c => decide (c * b ≤ t * w i)
  | none => false
/-- who is dealt to by the level -/
def restB (t b : Int) (w : Nat → Int) (cap : Nat → Option Int) (i : Nat) : Bool := decide (0 < w i) && !heldB t b w cap i
def less (c : Option Int) (b x : Int) : Int := match c with
  | some c => min (c * b) x
  | none => x
structure Dealt (n : Nat) (w : Nat → Int) (cap : Nat → Option Int) (total : Int) (lv : Option (Int × Int)) (fs : List Int) : Prop where
  len : fs.length = n
  zero : ∀ i, i < n → w i ≤ 0 → fs[i]? = some 0
  non : lv = none → (∀ i, i < n → 0 < w i → ∃ c, cap i = some c ∧ fs[i]? = some c) ∧ S (capN cap) (wtd n w) ≤ total
  lev : ∀ t b, lv = some (t, b) → 0 ≤ t ∧ 0 < b ∧ Int.gcd t b = 1 ∧ ¬ ((∀ i, i < n → 0 < w i → (cap i).isSome = true) ∧ S (capN cap) (wtd n w) ≤ total) ∧
    S (fun i => less (cap i) b (t * w i)) (wtd n w) = total * b ∧
    ∀ i, i < n → 0 < w i → fs[i]? = some (if heldB t b w cap i then capN cap i else part t b (pre w (restB t b w cap) i) (w i))
/-- between two turns: who is left (p), what is left (T) -/
structure DI (n : Nat) (w : Nat → Int) (cap : Nat → Option Int) (total : Int) (p : Nat → Bool) (T : Int) (f : List Int) : Prop where
  len : f.length = n
  pw : ∀ i, i < n → p i = true → 0 < w i
  tn : 0 ≤ T
  out : ∀ i, i < n → 0 < w i → p i = false → ∃ c, cap i = some c ∧ f[i]? = some c ∧ c * S w ((List.range n).filter p) ≤ T * w i
  yet : ∀ i, i < n → (p i = true ∨ w i ≤ 0) → f[i]? = some 0
  sum : T + S (capN cap) ((List.range n).filter fun i => decide (0 < w i) && !p i) = total
section
variable {n : Nat} {w : Nat → Int} {cap : Nat → Option Int} {total T : Int} {p : Nat → Bool} {f : List Int}
theorem filter_congr' {q r : Nat → Bool} {l : List Nat} (h : ∀ i ∈ l, q i = r i) : l.filter q = l.filter r := List.filter_congr h
theorem DI.start (h0 : 0 ≤ total) : DI n w cap total (fun i => decide (0 < w i)) total (List.replicate n 0) := by
  refine ⟨List.length_replicate, fun i _ h => of_decide_eq_true h, h0, fun i _ h1 h2 => absurd h1 (of_decide_eq_false h2), fun i hi _ => by rw [List.getElem?_replicate, if_pos hi], ?_⟩
  have e : ((List.range n).filter fun i => decide (0 < w i) && !decide (0 < w i)) = [] := by
    rw [List.filter_eq_nil_iff]
    intro i _
    cases decide (0 < w i) <;> simp
  rw [e, S_nil]; omega
/-- nobody is left -/
theorem DI.fin0 (d : DI n w cap total p T f) (he : (List.range n).filter p = []) : Dealt n w cap total none f := by
  have hp : ∀ i, i < n → p i = false := fun i hi => by
    have := List.filter_eq_nil_iff.mp he i (List.mem_range.mpr hi)
    simpa using this
  refine ⟨d.len, fun i hi h => d.yet i hi (.inr h), fun _ => ⟨fun i hi h => ?_, ?_⟩, fun t b h => by cases h⟩
  · obtain ⟨c, h1, h2, _⟩ := d.out i hi h (hp i hi)
    exact ⟨c, h1, h2⟩
  · have e : wtd n w = ((List.range n).filter fun i => decide (0 < w i) && !p i) := filter_congr' fun i hi => by
      rw [hp i (List.mem_range.mp hi)]; simp
    rw [e]
    have := d.sum
    have := d.tn
    omega
/-- who has no more than level times weight as a cap -/
def fullB (T W : Int) (w : Nat → Int) (cap : Nat → Option Int) (i : Nat) : Bool := heldB T W w cap i
theorem S_pos {R : List Nat} (h : ∀ i ∈ R, 0 < w i) (hne : R ≠ []) : 0 < S w R := by
  have := S_lt (f := fun _ => 0) (g := w) h hne
  have e : S (fun _ => 0) R = 0 := by
    have : ∀ R : List Nat, S (fun _ => 0) R = 0 := fun R => by
      induction R with
      | nil => rfl
      | cons i R ih => rw [S_cons, ih]; rfl
    exact this R
  omega
theorem heldB_some {t b : Int} {i : Nat} (h : heldB t b w cap i = true) : ∃ c, cap i = some c ∧ c * b ≤ t * w i := by
  unfold heldB at h
  cases e : cap i with
  | none => rw [e] at h; cases h
  | some c => rw [e] at h; exact ⟨c, rfl, of_decide_eq_true h⟩
theorem heldB_iff {t b c : Int} {i : Nat} (e : cap i = some c) : heldB t b w cap i = decide (c * b ≤ t * w i) := by
  unfold heldB
  rw [e]
theorem filter_and (q r : Nat → Bool) (l : List Nat) : (l.filter q).filter r = l.filter fun i => q i && r i := by
  rw [List.filter_filter]
  exact List.filter_congr fun i _ => by rw [Bool.and_comm]
/-- one turn -/
theorem DI.turn (d : DI n w cap total p T f) (W : Int) (hW : W = S w ((List.range n).filter p)) (hne : (List.range n).filter p ≠ []) (full : List Nat) (hfull : full = ((List.range n).filter p).filter (heldB T W w cap)) :
    DI n w cap total (fun i => p i && !heldB T W w cap i) (T - S (capN cap) full) (putAll f (full.map fun i => (i, capN cap i))) := by
  have hpos : ∀ i ∈ (List.range n).filter p, 0 < w i := fun i hi => by
    obtain ⟨h1, h2⟩ := List.mem_filter.mp hi
    exact d.pw i (List.mem_range.mp h1) h2
  have W0 : 0 < W := by rw [hW]; exact S_pos hpos hne
  have mfull : ∀ i, i ∈ full ↔ (i < n ∧ p i = true) ∧ heldB T W w cap i = true := fun i => by
    rw [hfull, List.mem_filter, List.mem_filter, List.mem_range]
  -- C * W ≤ T * V
  have hC : S (capN cap) full * W ≤ T * S w full := by
    rw [← S_mul_r, ← S_mul]
    refine S_le fun i hi => ?_
    obtain ⟨c, e, h⟩ := heldB_some ((mfull i).mp hi).2
    show (cap i).getD 0 * W ≤ T * w i
    rw [e]; exact h
  have hsp : W = S w full + S w ((List.range n).filter fun i => p i && !heldB T W w cap i) := by
    have e := S_split w (heldB T W w cap) ((List.range n).filter p)
    rw [← hfull, filter_and, ← hW] at e
    exact e
  have V0 : S w full ≤ W := by
    have : 0 ≤ S w ((List.range n).filter fun i => p i && !heldB T W w cap i) := S_nonneg fun i hi => by
      obtain ⟨h1, h2⟩ := List.mem_filter.mp hi
      have := d.pw i (List.mem_range.mp h1) (Bool.and_eq_true_iff.mp h2).1
      omega
    omega
  have T0 : 0 ≤ T - S (capN cap) full := by
    have h1 : T * S w full ≤ T * W := Int.mul_le_mul_of_nonneg_left V0 d.tn
    have h2 : S (capN cap) full * W ≤ T * W := Int.le_trans hC h1
    have := Int.le_of_mul_le_mul_right h2 W0
    omega
  have hr := rise W0 hC
  have eW' : W - S w full = S w ((List.range n).filter fun i => p i && !heldB T W w cap i) := by omega
  rw [eW'] at hr
  have W'0 : 0 ≤ S w ((List.range n).filter fun i => p i && !heldB T W w cap i) := by omega
  have fst : (full.map fun i => (i, capN cap i)).map (·.1) = full := by rw [List.map_map]; exact List.map_id'' (fun _ => rfl) _
  refine ⟨by rw [putAll_len]; exact d.len, fun i hi h => d.pw i hi (Bool.and_eq_true_iff.mp h).1, T0, fun i hi hw hp' => ?_, fun i hi h => ?_, ?_⟩
  · cases hp : p i with
    | false =>
      obtain ⟨c, h1, h2, h3⟩ := d.out i hi hw hp
      refine ⟨c, h1, ?_, ?_⟩
      · rw [putAll_out _ _ (by rw [fst]; intro hm; have := ((mfull i).mp hm).1.2; rw [hp] at this; cases this)]
        exact h2
      · rw [← hW] at h3
        exact keep_cap W0 (Int.le_of_lt hw) W'0 h3 hr
    | true =>
      have hh : heldB T W w cap i = true := by rw [hp] at hp'; simpa using hp'
      obtain ⟨c, e, h⟩ := heldB_some hh
      refine ⟨c, e, ?_, keep_cap W0 (Int.le_of_lt hw) W'0 h hr⟩
      have := putAll_in (g := capN cap) (i := i) (full.map fun i => (i, capN cap i)) f (fun q hq => by
        obtain ⟨j, _, e⟩ := List.mem_map.mp hq
        rw [← e]) (by rw [fst]; exact (mfull i).mpr ⟨⟨hi, hp⟩, hh⟩) (by rw [d.len]; exact hi)
      rw [this]
      show some ((cap i).getD 0) = some c
      rw [e]; rfl
  · have hn : i ∉ full := fun hm => by
      obtain ⟨⟨_, h1⟩, h2⟩ := (mfull i).mp hm
      rcases h with h | h
      · rw [h1, h2] at h; cases h
      · have := d.pw i hi h1; omega
    rw [putAll_out _ _ (by rw [fst]; exact hn)]
    refine d.yet i hi ?_
    rcases h with h | h
    · exact .inl (Bool.and_eq_true_iff.mp h).1
    · exact .inr h
  · have e1 : S (capN cap) ((List.range n).filter fun i => decide (0 < w i) && !(p i && !heldB T W w cap i)) = S (capN cap) full + S (capN cap) ((List.range n).filter fun i => decide (0 < w i) && !p i) := by
      have e := S_split (capN cap) p ((List.range n).filter fun i => decide (0 < w i) && !(p i && !heldB T W w cap i))
      rw [filter_and, filter_and] at e
      rw [e]
      congr 1
      · congr 1
        rw [hfull, filter_and]
        refine filter_congr' fun i hi => ?_
        have := d.pw i (List.mem_range.mp hi)
        cases hp : p i with
        | false => simp
        | true =>
          rw [decide_eq_true (this hp)]
          cases heldB T W w cap i <;> rfl
      · congr 1
        refine filter_congr' fun i _ => ?_
        cases p i <;> simp
    rw [e1]
    have := d.sum
    omega
/-- nobody is held any more: the level -/
theorem DI.fin1 (d : DI n w cap total p T f) (W : Int) (hW : W = S w ((List.range n).filter p)) (hne : (List.range n).filter p ≠ []) (hfull : ((List.range n).filter p).filter (heldB T W w cap) = []) {t b g : Int}
    (eT : T = t * g) (eW : W = b * g) (hg : 0 < g) (hgcd : Int.gcd t b = 1) :
    Dealt n w cap total (some (t, b)) (putAll f (runD t b w ((List.range n).filter p) 0)) := by
  have hpos : ∀ i ∈ (List.range n).filter p, 0 < w i := fun i hi => by
    obtain ⟨h1, h2⟩ := List.mem_filter.mp hi
    exact d.pw i (List.mem_range.mp h1) h2
  have W0 : 0 < W := by rw [hW]; exact S_pos hpos hne
  have b0 : 0 < b := Int.pos_of_mul_pos_right (by rw [Int.mul_comm] at eW; rw [← eW]; exact W0) hg
  have t0 : 0 ≤ t := by
    by_cases h : 0 ≤ t
    · exact h
    · have : t * g < 0 := Int.mul_neg_of_neg_of_pos (by omega) hg
      have := d.tn
      omega
  have cmp : ∀ c i, (c * W ≤ T * w i ↔ c * b ≤ t * w i) := fun c i => by
    have e1 : c * W = c * b * g := by rw [eW, Int.mul_assoc]
    have e2 : T * w i = t * w i * g := by rw [eT, Int.mul_assoc, Int.mul_comm g, ← Int.mul_assoc]
    rw [e1, e2]
    exact ⟨fun h => Int.le_of_mul_le_mul_right h hg, fun h => Int.mul_le_mul_of_nonneg_right h (Int.le_of_lt hg)⟩
  have hheld : ∀ i, heldB t b w cap i = heldB T W w cap i := fun i => by
    unfold heldB
    cases cap i with
    | none => rfl
    | some c => exact decide_eq_decide.mpr (cmp c i).symm
  have hrest : ∀ i, i < n → restB t b w cap i = p i := fun i hi => by
    unfold restB
    rw [hheld]
    cases hp : p i with
    | true =>
      have hw := d.pw i hi hp
      have hm : i ∈ (List.range n).filter p := List.mem_filter.mpr ⟨List.mem_range.mpr hi, hp⟩
      have hh := List.filter_eq_nil_iff.mp hfull i hm
      rw [decide_eq_true hw]
      simpa using hh
    | false =>
      by_cases hw : 0 < w i
      · obtain ⟨c, e, _, h⟩ := d.out i hi hw hp
        rw [← hW] at h
        rw [heldB_iff e, decide_eq_true h]
        simp
      · rw [decide_eq_false hw]; rfl
  have epre : ∀ i, i ≤ n → pre w (restB t b w cap) i = pre w p i := by
    intro i hi
    rw [pre_eq, pre_eq]
    congr 1
    exact filter_congr' fun j hj => hrest j (by have := List.mem_range.mp hj; omega)
  have hrun := runD_range t b w p n
  have fst : (runD t b w ((List.range n).filter p) 0).map (·.1) = (List.range n).filter p := runD_fst ..
  have hin : ∀ i, i < n → p i = true → (putAll f (runD t b w ((List.range n).filter p) 0))[i]? = some (part t b (pre w p i) (w i)) := fun i hi hp =>
    putAll_in (g := fun i => part t b (pre w p i) (w i)) _ f (fun q hq => (hrun q hq).2.2) (by rw [fst]; exact List.mem_filter.mpr ⟨List.mem_range.mpr hi, hp⟩) (by rw [d.len]; exact hi)
  have hout : ∀ i, i < n → p i = false → (putAll f (runD t b w ((List.range n).filter p) 0))[i]? = f[i]? := fun i hi hp =>
    putAll_out _ f (by rw [fst]; intro hm; have := (List.mem_filter.mp hm).2; rw [hp] at this; cases this)
  -- those who have weight: the removed and the rest
  have hsplit : ∀ g : Nat → Int, S g (wtd n w) = S g ((List.range n).filter p) + S g ((List.range n).filter fun i => decide (0 < w i) && !p i) := fun g => by
    have e := S_split g p (wtd n w)
    unfold wtd at e
    rw [filter_and, filter_and] at e
    unfold wtd
    rw [e]
    congr 1
    congr 1
    refine filter_congr' fun i hi => ?_
    cases hp : p i with
    | false => simp
    | true => rw [decide_eq_true (d.pw i (List.mem_range.mp hi) hp)]; rfl
  have outs : ∀ i ∈ (List.range n).filter fun i => decide (0 < w i) && !p i, ∃ c, cap i = some c ∧ c * b ≤ t * w i := fun i hi => by
    obtain ⟨h1, h2⟩ := List.mem_filter.mp hi
    rw [Bool.and_eq_true] at h2
    obtain ⟨c, e, _, h⟩ := d.out i (List.mem_range.mp h1) (of_decide_eq_true h2.1) (by simpa using h2.2)
    rw [← hW] at h
    exact ⟨c, e, (cmp c i).mp h⟩
  have ins : ∀ i ∈ (List.range n).filter p, ∀ c, cap i = some c → t * w i < c * b := fun i hi c e => by
    have hh := List.filter_eq_nil_iff.mp hfull i hi
    rw [heldB_iff e] at hh
    have h3 : ¬ c * b ≤ t * w i := fun z => hh (decide_eq_true ((cmp c i).mpr z))
    omega
  refine ⟨by rw [putAll_len]; exact d.len, fun i hi h => ?_, (fun h => by cases h), fun t' b' h => ?_⟩
  · have hp : p i = false := by
      cases hp : p i with
      | false => rfl
      | true => have := d.pw i hi hp; omega
    rw [hout i hi hp]
    exact d.yet i hi (.inr h)
  · cases h
    refine ⟨t0, b0, hgcd, fun ⟨h1, h2⟩ => ?_, ?_, fun i hi hw => ?_⟩
    · -- all have caps, and these come to more than the total
      have hlt : S (fun i => t * w i) ((List.range n).filter p) < S (fun i => capN cap i * b) ((List.range n).filter p) := S_lt (fun i hi => by
        obtain ⟨ha, hb⟩ := List.mem_filter.mp hi
        have hs := h1 i (List.mem_range.mp ha) (hpos i hi)
        obtain ⟨c, e⟩ := Option.isSome_iff_exists.mp hs
        have := ins i hi c e
        show t * w i < (cap i).getD 0 * b
        rw [e]; exact this) hne
      rw [S_mul, S_mul_r, ← hW] at hlt
      have e1 : t * W = T * b := by rw [eT, eW, Int.mul_comm b g, ← Int.mul_assoc]
      rw [e1] at hlt
      have hlt2 := Int.lt_of_mul_lt_mul_right hlt (Int.le_of_lt b0)
      rw [hsplit] at h2
      have := d.sum
      omega
    · rw [hsplit]
      have e1 : S (fun i => less (cap i) b (t * w i)) ((List.range n).filter p) = t * W := by
        rw [hW, ← S_mul]
        refine S_congr fun i hi => ?_
        cases e : cap i with
        | none => simp [less]
        | some c =>
          have := ins i hi c e
          simp only [less]
          omega
      have e2 : S (fun i => less (cap i) b (t * w i)) ((List.range n).filter fun i => decide (0 < w i) && !p i) = S (capN cap) ((List.range n).filter fun i => decide (0 < w i) && !p i) * b := by
        rw [← S_mul_r]
        refine S_congr fun i hi => ?_
        obtain ⟨c, e, h⟩ := outs i hi
        unfold capN
        rw [e]
        simp only [less, Option.getD_some]
        omega
      rw [e1, e2]
      have e3 : t * W = T * b := by rw [eT, eW, Int.mul_comm b g, ← Int.mul_assoc]
      rw [e3, ← Int.add_mul, d.sum]
    · cases hp : p i with
      | true =>
        have hr := hrest i hi
        rw [hp] at hr
        unfold restB at hr
        rw [Bool.and_eq_true] at hr
        have hh : heldB t b w cap i = false := by simpa using hr.2
        rw [hin i hi hp, hh, epre i (Nat.le_of_lt hi)]
        rfl
      | false =>
        obtain ⟨c, e, h1, h2⟩ := d.out i hi hw hp
        rw [← hW] at h2
        rw [hout i hi hp, h1, heldB_iff e, decide_eq_true ((cmp c i).mp h2)]
        unfold capN
        rw [e]; rfl
end
/-! #### lists of places, levels as values -/
theorem lcYs_range (n : Nat) (p : Nat → Bool) (ys : Nat → Option V) (h : ∀ i, i < n → ys i = if p i = true then some (.int (i : Int)) else none) : lcYs n ys = natsV ((List.range n).filter p) := by
  have key : ∀ m, m ≤ n → lcYs m ys = natsV ((List.range m).filter p) := by
    intro m
    induction m with
    | zero => intro _; rfl
    | succ m ih =>
      intro hm
      rw [lcYs_succ, ih (by omega), h m (by omega), List.range_succ, List.filter_append]
      unfold natsV
      rw [List.map_append]
      congr 1
      cases hp : p m <;> simp [hp]
  exact key n (Nat.le_refl _)
theorem rep_zero (n : Nat) : (List.replicate n [V.int 0]).flatten = (List.replicate n (0 : Int)).map V.int := by
  induction n with
  | zero => rfl
  | succ n ih => rw [List.replicate_succ, List.flatten_cons, ih, List.replicate_succ, List.map_cons]; rfl
theorem inV_nats (i : Nat) : ∀ l : List Nat, inV (.int (i : Int)) (natsV l) = decide (i ∈ l)
  | [] => by simp [inV]
  | j :: l => by
    have ih := inV_nats i l
    unfold inV at ih ⊢
    simp only [natsV, List.map_cons, List.any_cons] at ih ⊢
    rw [ih]
    have e : eqV (V.int (j : Int)) (V.int (i : Int)) = decide (j = i) := by
      by_cases hj : j = i
      · subst hj; simp [eqV]
      · have : ¬ ((j : Int) = (i : Int)) := by omega
        simp [eqV, hj, this]
    rw [e]
    by_cases hj : j = i
    · subst hj; simp
    · have : ¬ i = j := fun z => hj z.symm
      simp [hj, this]
theorem flat_nats (l : List Nat) : (natsV l).all flatV = true := by
  rw [List.all_eq_true]
  intro x hx
  obtain ⟨i, _, rfl⟩ := List.mem_map.mp hx
  rfl
def natI (l : List Nat) : List Int := l.map fun i : Nat => (i : Int)
theorem natsV_eq (l : List Nat) : (natI l).map V.int = natsV l := by unfold natI; rw [List.map_map]; rfl
theorem natI_nil {l : List Nat} : natI l = [] ↔ l = [] := by unfold natI; exact List.map_eq_nil_iff
theorem nat_of_map {l : List Nat} {i : Nat} {y : V} (h : (natsV l)[i]? = some y) : ∃ c, l[i]? = some c ∧ y = V.int (c : Int) := by
  rw [List.getElem?_map] at h
  cases e : l[i]? with
  | none => rw [e] at h; cases h
  | some c => rw [e] at h; exact ⟨c, rfl, (Option.some.inj h).symm⟩
theorem int_at {ws : List Int} {c : Nat} (h : c < ws.length) : (ws.map V.int)[c]? = some (.int (wAt ws c)) := by
  rw [List.getElem?_map, List.getElem?_eq_getElem h]
  unfold wAt
  rw [List.getD_eq_getElem?_getD, List.getElem?_eq_getElem h]; rfl
def cAt (cs : List (Option Int)) (i : Nat) : Option Int := cs.getD i none
theorem opt_at {cs : List (Option Int)} {c : Nat} (h : c < cs.length) : (cs.map optI)[c]? = some (optI (cAt cs c)) := by
  rw [List.getElem?_map, List.getElem?_eq_getElem h]
  unfold cAt
  rw [List.getD_eq_getElem?_getD, List.getElem?_eq_getElem h]; rfl
theorem wAt_mem {ws : List Int} {i : Nat} (h : i < ws.length) : wAt ws i ∈ ws := by
  unfold wAt
  rw [List.getD_eq_getElem?_getD, List.getElem?_eq_getElem h]
  exact List.getElem_mem h
theorem cAt_mem {cs : List (Option Int)} {i : Nat} {z : Int} (h : cAt cs i = some z) : some z ∈ cs := by
  unfold cAt at h
  rw [List.getD_eq_getElem?_getD] at h
  cases e : cs[i]? with
  | none => rw [e] at h; cases h
  | some c => rw [e] at h; have : c = some z := h; rw [← this]; exact List.mem_of_getElem? e
/-- a level as it stands -/
def LvAt (H : Hp) (lv : Option (Int × Int)) (v : V) : Prop := match lv with
  | none => v = .non
  | some (t, b) => ∃ r, v = .ref r ∧ H r = some (.tup [.int t, .int b])
theorem filter_not_mem {p q : Nat → Bool} {l : List Nat} : ((l.filter p).filter fun i => !decide (i ∈ (l.filter p).filter q)) = l.filter fun i => p i && !q i := by
  rw [filter_and]
  refine List.filter_congr fun i hi => ?_
  cases hp : p i with
  | false => rfl
  | true =>
    have : decide (i ∈ (l.filter p).filter q) = q i := by
      cases hq : q i with
      | true => exact decide_eq_true (List.mem_filter.mpr ⟨List.mem_filter.mpr ⟨hi, hp⟩, hq⟩)
      | false => exact decide_eq_false fun hm => by have := (List.mem_filter.mp hm).2; rw [hq] at this; cases this
    rw [this]
theorem filter_lt {α : Type} {q : α → Bool} {l : List α} {j : α} (h : j ∈ l) (hq : q j = false) : (l.filter q).length < l.length := by
  have h1 := List.length_filter_le q l
  have h2 : (l.filter q).length ≠ l.length := fun e => by
    have := (List.length_filter_eq_length_iff.mp e) j h
    rw [hq] at this; cases this
  omega
theorem putAll_take {ps : List (Nat × Int)} {i : Nat} {q : Nat × Int} (h : ps[i]? = some q) (f : List Int) : putAll f (ps.take (i + 1)) = (putAll f (ps.take i)).set q.1 q.2 := by
  unfold putAll
  rw [List.take_add_one, h]
  show List.foldl _ f (ps.take i ++ [q]) = _
  rw [List.foldl_append]
  rfl
theorem ixN_nat {n i : Nat} (h : i < n) : ixN n (i : Int) = some i := by
  unfold ixN
  rw [if_pos (by omega), if_pos (by omega)]
  simp
theorem map_set {α β : Type} (f : α → β) (l : List α) (i : Nat) (x : α) : (l.map f).set i (f x) = (l.set i x).map f := (List.map_set).symm
end My

/-! ### texts as lists of signs: parts, words, the longest, the wish -/
namespace My
open PySem L2
abbrev sO (l : List Nat) : Str := ⟨l.toArray⟩
theorem sO_tl (x : Str) : sO x.cps.toList = x := by
  cases x
  simp [sO]
/-- cut at each c -/
def cut (c : Nat) : List Nat → List (List Nat)
  | [] => [[]]
  | d :: r => if d = c then [] :: cut c r else match cut c r with
    | p :: ps => (d :: p) :: ps
    | [] => [[d]]
theorem cut_ne (c : Nat) : ∀ l, ∃ p ps, cut c l = p :: ps
  | [] => ⟨[], [], rfl⟩
  | d :: r => by
    obtain ⟨p, ps, e⟩ := cut_ne c r
    unfold cut
    by_cases h : d = c
    · rw [if_pos h]; exact ⟨_, _, rfl⟩
    · rw [if_neg h, e]; exact ⟨_, _, rfl⟩
theorem cut_hit {c : Nat} {r : List Nat} : cut c (c :: r) = [] :: cut c r := by
  conv => lhs; unfold cut
  rw [if_pos rfl]
theorem cut_miss {c d : Nat} {r p : List Nat} {ps : List (List Nat)} (h : d ≠ c) (e : cut c r = p :: ps) : cut c (d :: r) = (d :: p) :: ps := by
  conv => lhs; unfold cut
  rw [if_neg h, e]
theorem cut_len (c : Nat) : ∀ l : List Nat, (cut c l).length ≤ l.length + 1
  | [] => Nat.le_refl _
  | d :: r => by
    have ih := cut_len c r
    obtain ⟨p, ps, e⟩ := cut_ne c r
    by_cases h : d = c
    · subst h
      rw [cut_hit, List.length_cons, List.length_cons]; omega
    · rw [cut_miss h e, List.length_cons]
      rw [e, List.length_cons] at ih
      rw [List.length_cons]; omega
theorem spl_cut (c : Nat) : ∀ (l acc : List Nat), ∀ p ps, cut c l = p :: ps → TL.spl [c] 0 acc l = (acc ++ p) :: ps
  | [], acc, p, ps, e => by
    cases e
    rw [TL.spl_nil, List.append_nil]
  | d :: r, acc, p, ps, e => by
    obtain ⟨p', ps', e'⟩ := cut_ne c r
    by_cases h : d = c
    · subst h
      rw [cut_hit] at e
      cases e
      rw [TL.spl_hit (by simp [TL.pre]), List.append_nil]
      show acc :: TL.spl [d] 0 [] r = _
      rw [spl_cut d r [] p' ps' e', e', List.nil_append]
    · rw [cut_miss h e'] at e
      cases e
      rw [TL.spl_miss (by simp [TL.pre, h]), spl_cut c r _ p' ps e', List.append_assoc]; rfl
theorem split_cut {c : Nat} (hc : c < 256) (l : List Nat) : Txt.split (sO l) ⟨#[c]⟩ = (cut c l).map sO := by
  have := SX.split_S (a := l) (b := [c]) (by simp) (by simp [hc])
  obtain ⟨p, ps, e⟩ := cut_ne c l
  rw [spl_cut c l [] p ps e, List.nil_append, ← e] at this
  exact this
theorem join_sO (a : List Nat) (ys : List (List Nat)) : Txt.join (sO a) (ys.map sO) = sO (TL.joinL a ys) := SX.join_S a ys
theorem cut_append (c : Nat) (b : List Nat) : ∀ a : List Nat, cut c (a ++ c :: b) = cut c a ++ cut c b
  | [] => by rw [List.nil_append, cut_hit]; rfl
  | d :: r => by
    have ih := cut_append c b r
    obtain ⟨p, ps, e⟩ := cut_ne c r
    by_cases h : d = c
    · subst h
      rw [List.cons_append, cut_hit, cut_hit, ih]; rfl
    · rw [List.cons_append, cut_miss h e, cut_miss h (p := p) (ps := ps ++ cut c b) (by rw [ih, e]; rfl)]; rfl
/-- the words of a part -/
def wordsL (l : List Nat) : List (List Nat) := (cut 32 l).filter (!·.isEmpty)
def maxN : List Nat → Nat
  | [] => 0
  | a :: l => max a (maxN l)
theorem maxN_append : ∀ a b : List Nat, maxN (a ++ b) = max (maxN a) (maxN b)
  | [], b => by simp [maxN]
  | x :: a, b => by
    show max x (maxN (a ++ b)) = max (max x (maxN a)) (maxN b)
    rw [maxN_append a b]; omega
theorem foldl_maxN : ∀ (l : List Nat) (n : Nat), (l.map Int.ofNat).foldl max (n : Int) = ((max n (maxN l) : Nat) : Int)
  | [], n => by simp [maxN]
  | a :: l, n => by
    show (l.map Int.ofNat).foldl max (max (n : Int) (a : Int)) = _
    rw [show max (n : Int) (a : Int) = ((max n a : Nat) : Int) by omega, foldl_maxN l]
    show _ = ((max n (max a (maxN l)) : Nat) : Int)
    omega
/-! the longest -/
def longL (x : List Nat) : Nat := maxN (((cut 10 x).flatMap wordsL).map List.length)
/-- sign by sign: the run, the most -/
def lgM : Nat → Nat → List Nat → Nat
  | _, m, [] => m
  | r, m, c :: t => let r' := if c = 32 ∨ c = 10 then 0 else r + 1
    lgM r' (max m r') t
theorem lgM_max : ∀ (t : List Nat) (r m : Nat), lgM r m t = max m (lgM r 0 t)
  | [], r, m => by simp [lgM]
  | c :: t, r, m => by
    show lgM _ (max m _) t = max m (lgM _ (max 0 _) t)
    rw [lgM_max t _ (max m _), lgM_max t _ (max 0 _)]; omega
/-- the longest of a part's words, its first word begun with r signs -/
def lgP (r : Nat) (x : List Nat) : Nat := match cut 32 x with
  | [] => 0
  | h :: ts => max (r + h.length) (maxN (ts.map List.length))
theorem maxN_filter : ∀ l : List (List Nat), maxN ((l.filter (!·.isEmpty)).map List.length) = maxN (l.map List.length)
  | [] => rfl
  | [] :: l => by
    show maxN ((l.filter _).map _) = max 0 (maxN (l.map List.length))
    rw [maxN_filter l]; omega
  | (a :: p) :: l => by
    show max _ (maxN ((l.filter _).map _)) = max _ _
    rw [maxN_filter l]
theorem lgP_words (x : List Nat) : lgP 0 x = maxN ((wordsL x).map List.length) := by
  unfold wordsL
  rw [maxN_filter]
  unfold lgP
  obtain ⟨p, ps, e⟩ := cut_ne 32 x
  rw [e]
  show max (0 + p.length) _ = max p.length _
  rw [Nat.zero_add]
theorem lgP_nil (r : Nat) : lgP r [] = r := by
  show max (r + 0) 0 = r
  omega
theorem lgP_blank (r : Nat) (t : List Nat) : lgP r (32 :: t) = max r (lgP 0 t) := by
  unfold lgP
  obtain ⟨p, ps, e⟩ := cut_ne 32 t
  rw [cut_hit, e]
  show max (r + 0) (max p.length _) = max r (max (0 + p.length) _)
  rw [Nat.zero_add, Nat.add_zero]
theorem lgP_sign {r c : Nat} {t : List Nat} (h : c ≠ 32) : lgP r (c :: t) = lgP (r + 1) t := by
  unfold lgP
  obtain ⟨p, ps, e⟩ := cut_ne 32 t
  rw [cut_miss h e, e]
  show max (r + (p.length + 1)) _ = max (r + 1 + p.length) _
  rw [show r + (p.length + 1) = r + 1 + p.length by omega]
theorem lgP_ge (r : Nat) (t : List Nat) : r ≤ lgP r t := by
  unfold lgP
  obtain ⟨p, ps, e⟩ := cut_ne 32 t
  rw [e]
  show r ≤ max (r + p.length) _
  omega
theorem lgM_cut : ∀ (x : List Nat) (r m : Nat), r ≤ m → ∀ p ps, cut 10 x = p :: ps → lgM r m x = max m (max (lgP r p) (maxN (ps.map (lgP 0))))
  | [], r, m, hr, p, ps, e => by
    cases e
    rw [lgP_nil]
    show m = max m (max r 0)
    omega
  | c :: t, r, m, hr, p, ps, e => by
    obtain ⟨p', ps', e'⟩ := cut_ne 10 t
    by_cases h : c = 10
    · subst h
      rw [cut_hit, e'] at e
      cases e
      show lgM 0 (max m 0) t = _
      rw [lgM_cut t 0 (max m 0) (Nat.zero_le _) p' ps' e', lgP_nil]
      show max (max m 0) (max (lgP 0 p') _) = max m (max r (max (lgP 0 p') _))
      omega
    · rw [cut_miss h e'] at e
      cases e
      by_cases hb : c = 32
      · subst hb
        show lgM 0 (max m 0) t = _
        rw [lgM_cut t 0 (max m 0) (Nat.zero_le _) p' ps e', lgP_blank]
        omega
      · show lgM (if c = 32 ∨ c = 10 then 0 else r + 1) (max m (if c = 32 ∨ c = 10 then 0 else r + 1)) t = _
        rw [if_neg (by simp [h, hb]), lgM_cut t (r + 1) (max m (r + 1)) (by omega) p' ps e', lgP_sign hb]
        have := lgP_ge (r + 1) p'
        omega
theorem maxN_flat : ∀ l : List (List Nat), maxN ((l.flatMap wordsL).map List.length) = maxN (l.map (lgP 0))
  | [] => rfl
  | x :: l => by
    rw [List.flatMap_cons, List.map_append, maxN_append, maxN_flat l, ← lgP_words]; rfl
theorem long_M (x : List Nat) : longL x = lgM 0 0 x := by
  unfold longL
  obtain ⟨p, ps, e⟩ := cut_ne 10 x
  rw [lgM_cut x 0 0 (Nat.le_refl _) p ps e, maxN_flat, e]
  show max (lgP 0 p) _ = max 0 (max (lgP 0 p) _)
  omega
/-! the wish -/
def joined (l : List Nat) : List Nat := TL.joinL [32] (wordsL l)
def wishL (x : List Nat) : Nat := maxN ((cut 10 x).map fun p => (joined p).length)
def worth (l w : Nat) : Nat := l + (w - 1)
/-- sign by sign: the letters, the words, whether a word's end is ahead, the most -/
def wsM : Nat → Nat → Bool → Nat → List Nat → Nat
  | _, _, _, m, [] => m
  | l, w, b, m, c :: t => if c = 10 then wsM 0 0 true (max m 0) t
    else if c = 32 then wsM l w true (max m (worth l w)) t
    else wsM (l + 1) (w + (if b then 1 else 0)) false (max m (worth (l + 1) (w + (if b then 1 else 0)))) t
def begs : Bool → List Nat → Nat
  | _, [] => 0
  | b, c :: t => if c = 32 then begs true t else (if b then 1 else 0) + begs false t
def lets (l : List Nat) : Nat := (l.filter (· ≠ 32)).length
theorem begs_cut : ∀ (t : List Nat) (p : List Nat) (ps : List (List Nat)), cut 32 t = p :: ps → begs false t = (ps.filter (!·.isEmpty)).length ∧ begs true t = ((p :: ps).filter (!·.isEmpty)).length
  | [], p, ps, e => by cases e; exact ⟨rfl, rfl⟩
  | c :: t, p, ps, e => by
    obtain ⟨p', ps', e'⟩ := cut_ne 32 t
    have ih := begs_cut t p' ps' e'
    by_cases h : c = 32
    · subst h
      rw [cut_hit, e'] at e
      cases e
      exact ⟨ih.2, ih.2⟩
    · rw [cut_miss h e'] at e
      cases e
      refine ⟨?_, ?_⟩
      · show (if c = 32 then begs true t else 0 + begs false t) = _
        rw [if_neg h, ih.1]; omega
      · show (if c = 32 then begs true t else 1 + begs false t) = _
        rw [if_neg h, ih.1]
        show 1 + _ = (List.filter _ ((c :: p') :: ps)).length
        rw [List.filter_cons_of_pos (by rfl), List.length_cons]; omega
theorem lets_cut : ∀ (t : List Nat), ((cut 32 t).map List.length).sum = lets t
  | [] => rfl
  | c :: t => by
    have ih := lets_cut t
    obtain ⟨p, ps, e⟩ := cut_ne 32 t
    by_cases h : c = 32
    · subst h
      rw [cut_hit, List.map_cons, List.sum_cons, ih]
      show 0 + lets t = lets (32 :: t)
      unfold lets
      rw [List.filter_cons_of_neg (by simp)]; omega
    · rw [cut_miss h e]
      rw [e] at ih
      show (p.length + 1) + (ps.map List.length).sum = _
      have ih : p.length + (ps.map List.length).sum = lets t := ih
      unfold lets
      rw [List.filter_cons_of_pos (by simp [h]), List.length_cons]
      unfold lets at ih
      omega
theorem sum_filter : ∀ l : List (List Nat), ((l.filter (!·.isEmpty)).map List.length).sum = (l.map List.length).sum
  | [] => rfl
  | [] :: l => by
    show ((l.filter _).map _).sum = 0 + (l.map List.length).sum
    rw [sum_filter l]; omega
  | (a :: p) :: l => by
    rw [List.filter_cons_of_pos (by rfl), List.map_cons, List.map_cons, List.sum_cons, List.sum_cons, sum_filter l]
theorem joinL_len (s : Nat) : ∀ l : List (List Nat), (TL.joinL [s] l).length = (l.map List.length).sum + (l.length - 1)
  | [] => rfl
  | [p] => by show p.length = (p.length + 0) + 0; omega
  | p :: q :: r => by
    have ih := joinL_len s (q :: r)
    show (p ++ ([s] ++ TL.joinL [s] (q :: r))).length = (p.length + ((q :: r).map List.length).sum) + ((q :: r).length + 1 - 1)
    rw [List.length_append, List.length_append, ih]
    show p.length + (1 + _) = _
    have : (q :: r).length = r.length + 1 := rfl
    omega
theorem joined_len (p : List Nat) : (joined p).length = worth (lets p) (begs true p) := by
  obtain ⟨h, ts, e⟩ := cut_ne 32 p
  unfold joined
  rw [joinL_len]
  unfold wordsL
  rw [sum_filter, lets_cut, (begs_cut p h ts e).2, e]; rfl
/-- a part's worth, from letters, words and what is ahead -/
def wsP (l w : Nat) (b : Bool) (p : List Nat) : Nat := worth (l + lets p) (w + begs b p)
theorem worth_mono {l l' w w' : Nat} (h1 : l ≤ l') (h2 : w ≤ w') : worth l w ≤ worth l' w' := by unfold worth; omega
theorem wsM_cut : ∀ (x : List Nat) (l w : Nat) (b : Bool) (m : Nat), worth l w ≤ m → ∀ p ps, cut 10 x = p :: ps → wsM l w b m x = max m (max (wsP l w b p) (maxN (ps.map fun p => wsP 0 0 true p)))
  | [], l, w, b, m, hm, p, ps, e => by
    cases e
    show m = max m (max (worth (l + 0) (w + 0)) 0)
    rw [Nat.add_zero, Nat.add_zero]; omega
  | c :: t, l, w, b, m, hm, p, ps, e => by
    obtain ⟨p', ps', e'⟩ := cut_ne 10 t
    by_cases h : c = 10
    · subst h
      rw [cut_hit, e'] at e
      cases e
      show wsM 0 0 true (max m 0) t = _
      rw [wsM_cut t 0 0 true (max m 0) (by unfold worth; omega) p' ps' e']
      show max (max m 0) (max (wsP 0 0 true p') _) = max m (max (worth (l + 0) (w + 0)) (max (wsP 0 0 true p') _))
      rw [Nat.add_zero, Nat.add_zero]; omega
    · rw [cut_miss h e'] at e
      cases e
      by_cases hb : c = 32
      · subst hb
        show wsM l w true (max m (worth l w)) t = _
        rw [wsM_cut t l w true _ (by omega) p' ps e']
        have e1 : wsP l w b (32 :: p') = wsP l w true p' := by
          unfold wsP lets
          rw [List.filter_cons_of_neg (by simp)]
          rfl
        rw [e1]; omega
      · show (if c = 10 then wsM 0 0 true (max m 0) t else if c = 32 then wsM l w true (max m (worth l w)) t else wsM (l + 1) (w + (if b then 1 else 0)) false (max m (worth (l + 1) (w + (if b then 1 else 0)))) t) = _
        rw [if_neg h, if_neg hb, wsM_cut t (l + 1) _ false _ (by omega) p' ps e']
        have e1 : wsP l w b (c :: p') = wsP (l + 1) (w + (if b then 1 else 0)) false p' := by
          unfold wsP lets
          rw [List.filter_cons_of_pos (by simp [hb]), List.length_cons]
          show worth _ (w + (if c = 32 then begs true p' else (if b then 1 else 0) + begs false p')) = _
          rw [if_neg hb, show l + ((p'.filter (· ≠ 32)).length + 1) = l + 1 + (p'.filter (· ≠ 32)).length by omega, Nat.add_assoc w]
        have e2 : worth (l + 1) (w + (if b then 1 else 0)) ≤ wsP (l + 1) (w + (if b then 1 else 0)) false p' := worth_mono (by omega) (by omega)
        rw [e1]; omega
theorem wish_M (x : List Nat) : wishL x = wsM 0 0 true 0 x := by
  obtain ⟨p, ps, e⟩ := cut_ne 10 x
  rw [wsM_cut x 0 0 true 0 (by unfold worth; omega) p ps e]
  have e1 : ∀ q, (joined q).length = wsP 0 0 true q := fun q => by
    rw [joined_len]; unfold wsP; rw [Nat.zero_add, Nat.zero_add]
  unfold wishL
  rw [e]
  show max (joined p).length (maxN (ps.map fun p => (joined p).length)) = _
  rw [e1 p, show (fun p => (joined p).length) = (fun p => wsP 0 0 true p) from funext e1]; omega
theorem long_append (a b : List Nat) : longL (a ++ 10 :: b) = max (longL a) (longL b) := by
  unfold longL
  rw [cut_append, List.flatMap_append, List.map_append, maxN_append]
theorem wish_append (a b : List Nat) : wishL (a ++ 10 :: b) = max (wishL a) (wishL b) := by
  unfold wishL
  rw [cut_append, List.map_append, maxN_append]
/-! more blanks -/
def rep2 : List Nat → List Nat
  | [] => []
  | c :: t => if c = 32 then 32 :: 32 :: rep2 t else c :: rep2 t
theorem rep2_cut : ∀ x : List Nat, TL.joinL [32, 32] (cut 32 x) = rep2 x
  | [] => rfl
  | c :: t => by
    have ih := rep2_cut t
    obtain ⟨p, ps, e⟩ := cut_ne 32 t
    by_cases h : c = 32
    · subst h
      rw [cut_hit]
      rw [e] at ih ⊢
      show [] ++ ([32, 32] ++ TL.joinL [32, 32] (p :: ps)) = 32 :: 32 :: rep2 t
      rw [ih]; rfl
    · rw [cut_miss h e]
      rw [e] at ih
      have e2 : rep2 (c :: t) = c :: rep2 t := by
        show (if c = 32 then _ else _) = _
        rw [if_neg h]
      rw [e2, ← ih]
      cases ps <;> rfl
theorem rep2_len : ∀ x : List Nat, (rep2 x).length ≤ 2 * x.length
  | [] => Nat.le_refl _
  | c :: t => by
    have ih := rep2_len t
    show (if c = 32 then 32 :: 32 :: rep2 t else c :: rep2 t).length ≤ 2 * (t.length + 1)
    split
    · rw [List.length_cons, List.length_cons]; omega
    · rw [List.length_cons]; omega
theorem lgM_rep : ∀ (x : List Nat) (r m : Nat), lgM r m (rep2 x ++ [32, 32]) = lgM r m x
  | [], r, m => by
    show max (max m 0) 0 = m
    omega
  | c :: t, r, m => by
    by_cases h : c = 32
    · subst h
      show lgM 0 (max (max m 0) 0) (rep2 t ++ [32, 32]) = lgM 0 (max m 0) t
      rw [show max (max m 0) 0 = max m 0 by omega]
      exact lgM_rep t 0 _
    · show lgM r m ((if c = 32 then 32 :: 32 :: rep2 t else c :: rep2 t) ++ [32, 32]) = _
      rw [if_neg h]
      exact lgM_rep t _ _
theorem wsM_rep : ∀ (x : List Nat) (l w : Nat) (b : Bool) (m : Nat), worth l w ≤ m → wsM l w b m (rep2 x ++ [32, 32]) = wsM l w b m x
  | [], l, w, b, m, hm => by
    show max (max m (worth l w)) (worth l w) = m
    omega
  | c :: t, l, w, b, m, hm => by
    by_cases h : c = 32
    · subst h
      show wsM l w true (max (max m (worth l w)) (worth l w)) (rep2 t ++ [32, 32]) = wsM l w true (max m (worth l w)) t
      rw [show max (max m (worth l w)) (worth l w) = max m (worth l w) by omega]
      exact wsM_rep t l w true _ (by omega)
    · show wsM l w b m ((if c = 32 then 32 :: 32 :: rep2 t else c :: rep2 t) ++ [32, 32]) = _
      rw [if_neg h]
      show (if c = 10 then wsM 0 0 true (max m 0) (rep2 t ++ [32, 32]) else if c = 32 then wsM l w true (max m (worth l w)) (rep2 t ++ [32, 32]) else wsM (l + 1) (w + (if b then 1 else 0)) false (max m (worth (l + 1) (w + (if b then 1 else 0)))) (rep2 t ++ [32, 32])) = (if c = 10 then wsM 0 0 true (max m 0) t else if c = 32 then wsM l w true (max m (worth l w)) t else wsM (l + 1) (w + (if b then 1 else 0)) false (max m (worth (l + 1) (w + (if b then 1 else 0)))) t)
      by_cases h10 : c = 10
      · rw [if_pos h10, if_pos h10]
        exact wsM_rep t 0 0 true _ (by unfold worth; omega)
      · rw [if_neg h10, if_neg h10, if_neg h, if_neg h]
        exact wsM_rep t _ _ false _ (by omega)
def wideL (x : List Nat) : List Nat := 32 :: (rep2 x ++ [32, 32])
theorem long_wide (x : List Nat) : longL (wideL x) = longL x := by
  rw [long_M, long_M]
  exact lgM_rep x 0 0
theorem wish_wide (x : List Nat) : wishL (wideL x) = wishL x := by
  rw [wish_M, wish_M]
  exact wsM_rep x 0 0 true 0 (by unfold worth; omega)
theorem replace_rep (x : List Nat) : Txt.replace (sO x) " " "  " = sO (rep2 x) := by
  have h := StrLaws.replace_one (sO x) "  " 32
  have e1 : (⟨#[32]⟩ : Str) = " " := by decide +kernel
  have e2 : ("  " : Str) = sO [32, 32] := by decide +kernel
  rw [split_cut (by decide), e2, ← TL.join_eq, join_sO, rep2_cut] at h
  rw [← e1, e2]
  exact h
theorem max_cast (a b : Nat) : (if (a : Int) > (b : Int) then (a : Int) else (b : Int)) = ((max b a : Nat) : Int) := by
  split <;> omega
theorem worth_cast (le wo : Nat) : ((le : Int) + if (wo : Int) - 1 > 0 then (wo : Int) - 1 else 0) = ((worth le wo : Nat) : Int) := by
  unfold worth
  split <;> omega
theorem lgM_end {r m c : Nat} {t : List Nat} (e : c = 32 ∨ c = 10) : lgM r m (c :: t) = lgM 0 (max m 0) t := by
  show lgM (if c = 32 ∨ c = 10 then 0 else r + 1) (max m (if c = 32 ∨ c = 10 then 0 else r + 1)) t = _
  rw [if_pos e]
theorem lgM_run {r m c : Nat} {t : List Nat} (e : ¬ (c = 32 ∨ c = 10)) : lgM r m (c :: t) = lgM (r + 1) (max m (r + 1)) t := by
  show lgM (if c = 32 ∨ c = 10 then 0 else r + 1) (max m (if c = 32 ∨ c = 10 then 0 else r + 1)) t = _
  rw [if_neg e]
theorem wsM_feed {l w m c : Nat} {b : Bool} {t : List Nat} (e : c = 10) : wsM l w b m (c :: t) = wsM 0 0 true (max m (worth 0 0)) t := by subst e; rfl
theorem wsM_blank {l w m c : Nat} {b : Bool} {t : List Nat} (e : ¬ c = 10) (e2 : c = 32) : wsM l w b m (c :: t) = wsM l w true (max m (worth l w)) t := by subst e2; rfl
theorem wsM_sign {l w m c : Nat} {b : Bool} {t : List Nat} (e : ¬ c = 10) (e2 : ¬ c = 32) : wsM l w b m (c :: t) = wsM (l + 1) (w + (if b then 1 else 0)) false (max m (worth (l + 1) (w + (if b then 1 else 0)))) t := by
  show (if c = 10 then _ else if c = 32 then _ else _) = _
  rw [if_neg e, if_neg e2]
theorem cut_sum (c : Nat) : ∀ l : List Nat, ((cut c l).map List.length).sum ≤ l.length
  | [] => Nat.le_refl _
  | d :: r => by
    have ih := cut_sum c r
    obtain ⟨p, ps, e⟩ := cut_ne c r
    by_cases h : d = c
    · subst h
      rw [cut_hit, List.map_cons, List.sum_cons, List.length_cons]
      show 0 + _ ≤ _
      omega
    · rw [cut_miss h e, List.map_cons, List.sum_cons, List.length_cons, List.length_cons]
      rw [e, List.map_cons, List.sum_cons] at ih
      omega
theorem mem_sum {l : List (List Nat)} {p : List Nat} (h : p ∈ l) : p.length ≤ (l.map List.length).sum := by
  induction l with
  | nil => cases h
  | cons a l ih =>
    rw [List.map_cons, List.sum_cons]
    rcases List.mem_cons.mp h with rfl | h
    · omega
    · have := ih h; omega
theorem words_sum (p : List Nat) : ((wordsL p).map List.length).sum ≤ p.length := by
  unfold wordsL
  rw [sum_filter]
  exact cut_sum 32 p
theorem words_pos {p w : List Nat} (h : w ∈ wordsL p) : 0 < w.length := by
  have := (List.mem_filter.mp h).2
  cases w with
  | nil => cases this
  | cons a w => exact Nat.succ_pos _
theorem count_sum : ∀ {l : List (List Nat)}, (∀ w ∈ l, 0 < w.length) → l.length ≤ (l.map List.length).sum
  | [], _ => Nat.le_refl _
  | w :: l, h => by
    have h1 := h w (List.mem_cons_self ..)
    have h2 := count_sum fun y hy => h y (List.mem_cons_of_mem _ hy)
    rw [List.map_cons, List.sum_cons, List.length_cons]; omega
theorem words_count (p : List Nat) : (wordsL p).length ≤ p.length := Nat.le_trans (count_sum fun _ h => words_pos h) (words_sum p)
theorem flat_count : ∀ l : List (List Nat), (l.flatMap wordsL).length ≤ (l.map List.length).sum
  | [] => Nat.le_refl _
  | p :: l => by
    rw [List.flatMap_cons, List.length_append, List.map_cons, List.sum_cons]
    have h1 := words_count p
    have h2 := flat_count l
    omega
theorem part_len {c : Nat} {l p : List Nat} (h : p ∈ cut c l) : p.length ≤ l.length := Nat.le_trans (mem_sum h) (cut_sum c l)
theorem flat_take (f : List Nat → List (List Nat)) (l : List (List Nat)) (i : Nat) : ((l.take i).flatMap f).length ≤ (l.flatMap f).length := by
  conv => rhs; rw [← List.take_append_drop i l]
  rw [List.flatMap_append, List.length_append]; omega
theorem maxN_ge : ∀ {l : List Nat} {k : Nat}, k ∈ l → k ≤ maxN l
  | a :: l, k, h => by
    show k ≤ max a (maxN l)
    rcases List.mem_cons.mp h with rfl | h
    · omega
    · have := maxN_ge h; omega
theorem maxN_le : ∀ {l : List Nat} {m : Nat}, (∀ k ∈ l, k ≤ m) → maxN l ≤ m
  | [], m, _ => Nat.zero_le _
  | a :: l, m, h => by
    show max a (maxN l) ≤ m
    have h1 := h a (List.mem_cons_self ..)
    have h2 := maxN_le fun k hk => h k (List.mem_cons_of_mem _ hk)
    omega
theorem maxN_of {l : List Nat} {m : Int} (h : m ∈ l.map Int.ofNat) (g : ∀ y ∈ l.map Int.ofNat, y ≤ m) : m = ((maxN l : Nat) : Int) := by
  obtain ⟨k, hk, rfl⟩ := List.mem_map.mp h
  have h1 := maxN_ge hk
  have h2 : maxN l ≤ k := maxN_le fun j hj => by
    have := g _ (List.mem_map.mpr ⟨j, hj, rfl⟩)
    exact Int.ofNat_le.mp this
  show ((k : Nat) : Int) = _
  omega
/-! the signs of words -/
def alphL : List Nat := (Str.ofString "!\"#$&'()*+,-./0123456789:;<=>?@ABCDEFGHIJKLMNOPQRSTUVWXYZ[\\]^_`abcdefghijklmnopqrstuvwxyz{}~").cps.toList
theorem alph_len : alphL.length = 92 := by decide +kernel
theorem alph_ok : ∀ c ∈ alphL, 33 ≤ c ∧ c < 127 := by decide +kernel
def signL (f s : Int) (k : Nat) : Nat := alphL.getD ((f + s * (k : Int)) % 92).toNat 33
theorem signL_at (f s : Int) (k : Nat) : atI alphL ((f + s * (k : Int)) % 92) = some (signL f s k) := by
  have h0 := Int.emod_nonneg (f + s * (k : Int)) (b := 92) (by decide)
  have h1 := Int.emod_lt_of_pos (f + s * (k : Int)) (b := 92) (by decide)
  unfold signL
  generalize (f + s * (k : Int)) % 92 = i at h0 h1
  obtain ⟨j, rfl⟩ := Int.eq_ofNat_of_zero_le h0
  have hj : j < alphL.length := by rw [alph_len]; omega
  unfold atI
  rw [ixN_nat hj, Int.toNat_natCast, List.getD_eq_getElem?_getD, List.getElem?_eq_getElem hj]
  exact List.getElem?_eq_getElem hj
theorem signL_ok (f s : Int) (k : Nat) : 33 ≤ signL f s k ∧ signL f s k < 127 := by
  have h := signL_at f s k
  unfold atI at h
  obtain ⟨j, _, hj⟩ := Option.bind_eq_some_iff.mp h
  exact alph_ok _ (List.mem_of_getElem? hj)
theorem joinL_signs : ∀ l : List Nat, TL.joinL [] (l.map fun c => [c]) = l
  | [] => rfl
  | [c] => rfl
  | c :: d :: l => by
    show [c] ++ ([] ++ TL.joinL [] ((d :: l).map fun c => [c])) = _
    rw [joinL_signs (d :: l)]; rfl
end My

/-! ### rules for texts -/
namespace My
open PySem PySem.Spec PyProof.Rows L2
section
variable {X : Cx}
/-- c * n -/
def rRepS : R2 := fun x y H Q => ∃ (c : Nat) (n : Nat), x = .str ⟨#[c]⟩ ∧ y = .int (n : Int) ∧ 1 ≤ n ∧ n ≤ 1000 ∧ Q (.str (sO (List.replicate n c))) H
theorem fold_rep (c : Nat) : ∀ (n : Nat) (acc : Array Nat), ((List.replicate n #[c]).foldl (· ++ ·) acc) = (acc.toList ++ List.replicate n c).toArray
  | 0, acc => by simp
  | n + 1, acc => by
    rw [List.replicate_succ, List.foldl_cons, fold_rep c n]
    simp [List.replicate_succ]
theorem op_repS : OpR X (binaryOp .Mult) rRepS := by
  intro pins s σ H x y v u Q I rx ry h
  obtain ⟨c, n, rfl, rfl, n1, n2, q⟩ := h
  obtain ⟨t, rfl⟩ := rx
  obtain ⟨t', rfl⟩ := ry
  refine P.mul_str ?_ (fun _ _ => ?_) (fun _ _ => ?_) ?_
  · rw [decide_eq_false (by omega), decide_eq_false (by omega)]; rfl
  · show ¬ (((#[c] : Array Nat).size : Int) > _)
    have h1 : (n : Int) ≤ 1000 := by omega
    have h2 : 1 ≤ (2 ^ 63 - 1 : Int) / (n : Int) := by
      apply Int.le_ediv_of_mul_le (by omega)
      omega
    show ¬ ((1 : Nat) : Int) > _
    omega
  · show PySem.Builtin.Str.tooLong (1 * (n : Int).toNat) = false
    unfold PySem.Builtin.Str.tooLong
    exact decide_eq_false (by rw [sizeLine_eq]; simp; omega)
  · rw [if_neg (by omega)]
    have e : (⟨(List.replicate (n : Int).toNat (⟨#[c]⟩ : Str).cps).foldl (· ++ ·) #[]⟩ : Str) = sO (List.replicate n c) := by
      rw [Int.toNat_natCast]
      show (⟨(List.replicate n #[c]).foldl (· ++ ·) #[]⟩ : Str) = _
      rw [fold_rep]; simp [sO]
    split
    · rename_i h
      have hn : n = 1 := by
        have : ((⟨#[c]⟩ : Str).length == 0) = false := rfl
        rw [this, Bool.or_false] at h
        have := eq_of_beq h
        omega
      subst hn
      exact ⟨.str (sO [c]), H, I, ⟨t, rfl⟩, q⟩
    · rw [e]
      refine ⟨?_, .str _, H, I.tok _, ⟨_, rfl⟩, q⟩
      show (List.replicate n c).toArray.size ≤ sizeLine
      rw [List.size_toArray, List.length_replicate, sizeLine_eq]; omega
/-- x.split(c): a new list of the parts -/
theorem mt_splitN : MtR X "str.split" (fun x xs H Q => ∃ (l : List Nat) (c : Nat), x = .str (sO l) ∧ xs = [.str ⟨#[c]⟩] ∧ c < 256 ∧ l.length + 2 ≤ sizeLine ∧ New H (.lst ((cut c l).map fun p => .str (sO p))) Q) := by
  intro pins s σ H x xs v us Q I rx rs h
  obtain ⟨l, c, rfl, rfl, hc, hl, q⟩ := h
  refine mt_split pins s σ H _ _ v us Q I rx rs ⟨sO l, ⟨#[c]⟩, rfl, rfl, rfl, hl, fun p hp => ?_⟩
  rw [split_cut hc, List.map_map]
  exact q.go p hp
theorem pe_splitN {o e : Expr} {to te : TE} {apos pos : Pos} (ho : PE X o to) (he : PE X e te) (hs : starEach [e] X.env = [(false, eval e X.env)] := by rfl) (hbase : attributeBase o "split" X.env (eval o X.env) = eval o X.env := by rfl) (hline : (apos.endLine == pos.line) = true := by rfl) :
    PE X (.Call (.Attribute o "split" apos) [e] [] pos) (tM1 (fun x xs H Q => ∃ (l : List Nat) (c : Nat), x = .str (sO l) ∧ xs = [.str ⟨#[c]⟩] ∧ c < 256 ∧ l.length + 2 ≤ sizeLine ∧ New H (.lst ((cut c l).map fun p => .str (sO p))) Q) to te) :=
  pe_m1 PySem.F.slot_str_split PySem.F.type_str_split mt_splitN ho he hs hbase hline
/-- sep.join(list of texts) -/
theorem mt_joinN {K : PySem.W.Frag} (hK : X.K = K) : MtR X "str.join" (fun x xs H Q => ∃ (a : List Nat) (p : Addr) (ys : List (List Nat)), x = .str (sO a) ∧ xs = [.ref p] ∧ SqL K H p (ys.map fun y => V.str (sO y)) ∧ (ys.map List.length).sum + ys.length * a.length ≤ 16777216 ∧ Q (.str (sO (TL.joinL a ys))) H) := by
  intro pins s σ H x xs v us Q I rx rs h
  obtain ⟨a, p, ys, rfl, rfl, hp, hz, q⟩ := h
  subst hK
  refine mt_join pins s σ H _ _ v us Q I rx rs ⟨sO a, p, ys.map sO, rfl, rfl, .inl (by rw [List.map_map]; exact hp), ?_, ?_⟩
  · rw [List.map_map, List.length_map]; exact hz
  · rw [join_sO]; exact q
theorem pe_joinN {K : PySem.W.Frag} (hK : X.K = K) {o e : Expr} {to te : TE} {apos pos : Pos} (ho : PE X o to) (he : PE X e te) (hs : starEach [e] X.env = [(false, eval e X.env)] := by rfl) (hbase : attributeBase o "join" X.env (eval o X.env) = eval o X.env := by rfl) (hline : (apos.endLine == pos.line) = true := by rfl) :
    PE X (.Call (.Attribute o "join" apos) [e] [] pos) (tM1 (fun x xs H Q => ∃ (a : List Nat) (p : Addr) (ys : List (List Nat)), x = .str (sO a) ∧ xs = [.ref p] ∧ SqL K H p (ys.map fun y => V.str (sO y)) ∧ (ys.map List.length).sum + ys.length * a.length ≤ 16777216 ∧ Q (.str (sO (TL.joinL a ys))) H) to te) :=
  pe_m1 PySem.F.slot_str_join PySem.F.type_str_join (mt_joinN hK) ho he hs hbase hline
/-- 'c' op e where e wants a token -/
theorem pe_opT {op : Operator} {r : R2} {c : Str} {j : Nat} {p pos : Pos} {f : Expr} {tf : TE} (ho : OpR X (binaryOp op) r) (hb : PET X f tf) : PE X (.BinOp (.Constant (.str c) j p) op f pos) (tOp r (tC (.str c)) tf) := by
  refine ⟨fun pins s σ H Q I h => ?_⟩
  refine wpAny_BinOp (PySem.Calls.Constant_str ?_)
  exact thn (hb pins _ σ H _ (Nat.succ_le_succ (Nat.zero_le _)) (I.tok _) h) fun u s2 ⟨y, H2, I2, r2, q2⟩ => ho pins s2 σ H2 (.str c) y _ u Q I2 ⟨_, rfl⟩ r2 q2
end
/-! #### walks -/
theorem it_list {K : PySem.W.Frag} {a : Addr} {xs : List V} {Qd : Hp → Prop} {Body : (Hp → Prop) → V → Hp → Prop} {H0 : Hp} (Pv : Nat → Hp → Prop) (h0 : Pv 0 H0) (hl : ∀ i H, i ≤ xs.length → Pv i H → SqL K H a xs)
    (hs : ∀ i x H, xs[i]? = some x → Pv i H → Body (Pv (i + 1)) x H) (hd : ∀ H, Pv xs.length H → Qd H) :
    ∃ W : Nat → Nat → Hp → Prop, (∃ m, W 0 m H0) ∧ ∀ i m H, W i m H →
      ((Itl K a).stop i H ∧ Qd H) ∨ ((Itl K a).go i H ∧ ∃ Nx : Hp → Prop, (∀ H', Nx H' → ∃ m', m' < m ∧ W (i + 1) m' H') ∧ ∀ x H', (Itl K a).yld i H x H' → Body Nx x H') := by
  refine ⟨fun i m H => m = xs.length - i ∧ i ≤ xs.length ∧ Pv i H, ⟨xs.length, by simp, Nat.zero_le _, h0⟩, ?_⟩
  rintro i m H ⟨rfl, hi, p⟩
  have q := hl i H hi p
  by_cases hlt : i < xs.length
  · refine .inr ⟨⟨xs, xs[i], q, by simp [hlt]⟩, Pv (i + 1), fun H' p' => ⟨xs.length - (i + 1), by omega, rfl, hlt, p'⟩, fun x H' y => ?_⟩
    obtain ⟨e, y⟩ := y
    subst e
    exact hs i x _ (y xs q) p
  · have e : i = xs.length := by omega
    subst e
    exact .inl ⟨⟨xs, q, Nat.le_refl _⟩, hd H p⟩
/-- for c in a text -/
theorem for_str {l : List Nat} {g : TG} {tb : TS} {D : Ends} {σ : L2.St} {H : Hp} (Pv : Nat → L2.St → Hp → Prop) (h0 : Pv 0 σ H)
    (hs : ∀ i c σ H, l[i]? = some c → Pv i σ H → g (.str ⟨#[c]⟩) σ H fun σ2 H2 => tb { D with nx := Pv (i + 1), ct := Pv (i + 1), bk := D.nx } σ2 H2) (hd : ∀ σ H, Pv l.length σ H → D.nx σ H) :
    ∃ W : Nat → Nat → L2.St → Hp → Prop, (∃ m, W 0 m σ H) ∧ ∀ i m σ H, W i m σ H →
      ((Its (sO l)).stop i H ∧ D.nx σ H) ∨ ((Its (sO l)).go i H ∧ ∃ N : L2.St → Hp → Prop, (∀ σ' H', N σ' H' → ∃ m', m' < m ∧ W (i + 1) m' σ' H') ∧ ∀ x H', (Its (sO l)).yld i H x H' → g x σ H' fun σ2 H2 => tb { D with nx := N, ct := N, bk := D.nx } σ2 H2) := by
  refine ⟨fun i m σ H => m = l.length - i ∧ i ≤ l.length ∧ Pv i σ H, ⟨l.length, by simp, Nat.zero_le _, h0⟩, ?_⟩
  rintro i m σ H ⟨rfl, hi, p⟩
  by_cases hlt : i < l.length
  · refine .inr ⟨?_, Pv (i + 1), fun σ' H' p' => ⟨l.length - (i + 1), by omega, rfl, hlt, p'⟩, fun x H' y => ?_⟩
    · show i < l.toArray.size
      rw [List.size_toArray]; exact hlt
    · obtain ⟨rfl, c, hc, rfl⟩ := y
      have hc : l.toArray[i]? = some c := hc
      rw [List.getElem?_toArray] at hc
      exact hs i c σ _ hc p
  · have e : i = l.length := by omega
    subst e
    refine .inl ⟨?_, hd σ H p⟩
    show l.toArray.size ≤ l.length
    rw [List.size_toArray]; exact Nat.le_refl _
/-! #### written texts -/
theorem blank_eq : Str.ofString " " = ⟨#[32]⟩ := by decide +kernel
theorem feed_eq : Str.ofString "\n" = ⟨#[10]⟩ := by decide +kernel
theorem ends_eq : Str.ofString " \n" = sO [32, 10] := by decide +kernel
theorem empty_eq : Str.ofString "" = sO [] := by decide +kernel
theorem str_inj_dec {l m : List Nat} : decide (V.str (sO l) = V.str (sO m)) = decide (l = m) := decide_eq_decide.mpr ⟨fun e => by
  have := congrArg (fun v => match v with | V.str x => x.cps.toList | _ => []) e
  simpa [sO] using this, fun e => by rw [e]⟩
theorem empty_dec {l : List Nat} : decide (V.str (sO l) = V.str (Str.ofString "")) = l.isEmpty := by
  rw [empty_eq, str_inj_dec]
  cases l <;> rfl
theorem sign_dec {c d : Nat} : decide (V.str ⟨#[c]⟩ = V.str ⟨#[d]⟩) = decide (c = d) := by
  have := str_inj_dec (l := [c]) (m := [d])
  rw [show (V.str ⟨#[c]⟩) = V.str (sO [c]) from rfl, show (V.str ⟨#[d]⟩) = V.str (sO [d]) from rfl, this]
  exact decide_eq_decide.mpr ⟨fun e => by cases e; rfl, fun e => by rw [e]⟩
theorem feed_dec {c : Nat} : decide (V.str ⟨#[c]⟩ = V.str (Str.ofString "\n")) = decide (c = 10) := by rw [feed_eq, sign_dec]
theorem blank_dec {c : Nat} : decide (V.str ⟨#[c]⟩ = V.str (Str.ofString " ")) = decide (c = 32) := by rw [blank_eq, sign_dec]
theorem ends_dec {c : Nat} : decide (c ∈ (Str.ofString " \n").cps.toList) = decide (c = 32 ∨ c = 10) := by
  rw [ends_eq]
  exact decide_eq_decide.mpr (by simp [sO])
theorem sO_append (a b : List Nat) : sO a ++ sO b = sO (a ++ b) := by
  show (⟨a.toArray ++ b.toArray⟩ : Str) = ⟨(a ++ b).toArray⟩
  simp
theorem sO_len (l : List Nat) : (sO l).length = l.length := by
  show l.toArray.size = _
  rw [List.size_toArray]
theorem cutS_take (l : List Nat) (m : Nat) : cutS (sO l) none (some (m : Int)) = sO (l.take m) := by
  unfold cutS
  rw [HT.sIx_none, HT.sIx_nat, Nat.sub_zero, List.drop_zero, sO_len]
  show sO (l.take (min m l.length)) = _
  by_cases h : m ≤ l.length
  · rw [Nat.min_eq_left h]
  · rw [Nat.min_eq_right (by omega), List.take_of_length_le (Nat.le_refl _), List.take_of_length_le (by omega)]
end My

/-! ### max(xs, default = d) of ints -/
namespace My
open PySem PySem.Spec PyProof.Rows L2
def maxDef (d : Int) : List Int → Int
  | [] => d
  | n :: ns => ns.foldl max n
def rMaxDef (K : PySem.W.Frag) : List V → List V → Hp → VK → Prop := fun vs zs H Q => ∃ (a : Addr) (ns : List Int) (d : Int), vs = [.ref a] ∧ zs = [.int d] ∧ SqL K H a (ns.map V.int) ∧ Q (.int (maxDef d ns)) H
theorem reads_ints {h : Heap} : ∀ {ns : List Int} {us : List Value}, Vals (ns.map V.int) us → ∃ as, ReadsAll h us (ns.map .int) as
  | [], _, .nil => ⟨_, .nil⟩
  | n :: ns, _, .cons r t => by
    obtain ⟨k, rfl⟩ := r
    obtain ⟨as, ha⟩ := reads_ints (h := h) t
    exact ⟨_, .cons (.int n k) ha⟩
theorem cr_maxDef {X : Cx} (hc : X.calm = true) (hu : X.A.units + 64 < cLine) : CallRK X (.builtin "max") [Str.ofString "default"] (rMaxDef X.K) := by
  intro pins s σ H vs zs us ws Q I r rz h
  obtain ⟨a, ns, d, rfl, rfl, hs, q⟩ := h
  obtain rfl := Vals.ref1 r
  obtain ⟨w1, rfl, e1⟩ := vals1 rz
  obtain ⟨tk, rfl⟩ := e1
  obtain ⟨its, rv, hl, hz⟩ := I.list hs
  obtain ⟨as, hr⟩ := reads_ints (h := s.heap) rv
  have hd : PyData.depthAll (ns.map PyData.int) ≤ 1 := depthAll_map (g := PyData.int) (m := 1) (fun x => by simp [PyData.depth]) ns
  refine PySem.W.max_list_default (I.ok.hd hc) hl.isList (by simpa using hr) ?_ (by omega) (fun e h' tk2 hk => ?_) (fun y ys i v h' tk2 bs e hv hrd hk => ?_)
  · refine ⟨fun x hx y hy => ?_, fun x hx => ?_⟩
    · obtain ⟨n, _, rfl⟩ := List.mem_map.mp hx
      obtain ⟨m, _, rfl⟩ := List.mem_map.mp hy
      rfl
    · obtain ⟨n, _, rfl⟩ := List.mem_map.mp hx
      intro z; cases z
  · cases ns with
    | nil => exact ⟨.int d, H, I.kept hk, ⟨tk, rfl⟩, q⟩
    | cons n ns => cases e
  · cases ns with
    | nil => cases e
    | cons n ns =>
      cases e
      rw [PySem.W.maxD_ints] at hrd
      obtain ⟨t, rfl, _⟩ := reads_int_inv hrd
      exact ⟨.int _, H, I.kept hk, ⟨t, rfl⟩, q⟩
theorem cr_maxDefK {X : Cx} {K : PySem.W.Frag} (hc : X.calm = true) (hu : X.A.units + 64 < cLine) (h : X.K = K) : CallRK X (.builtin "max") [Str.ofString "default"] (rMaxDef K) := by subst h; exact cr_maxDef hc hu
theorem maxDef_N (l : List Nat) : maxDef 0 (l.map Int.ofNat) = ((maxN l : Nat) : Int) := by
  cases l with
  | nil => rfl
  | cons a l =>
    show (l.map Int.ofNat).foldl max (a : Int) = _
    rw [foldl_maxN]; rfl
end My

/-! ### lines of a part, of a text, at a width -/
namespace My
open PySem L2
abbrev jn (g : List (List Nat)) : List Nat := TL.joinL [32] g
theorem jn_snoc : ∀ (g : List (List Nat)) (x : List Nat), g ≠ [] → jn (g ++ [x]) = jn g ++ 32 :: x
  | [], _, h => absurd rfl h
  | [a], x, _ => rfl
  | a :: b :: g, x, _ => by
    have ih := jn_snoc (b :: g) x (by simp)
    show a ++ ([32] ++ jn (b :: g ++ [x])) = (a ++ ([32] ++ jn (b :: g))) ++ 32 :: x
    rw [ih]; simp
theorem jn_ne {g : List (List Nat)} (h : g ≠ []) (hw : ∀ w ∈ g, 0 < w.length) : jn g ≠ [] := by
  cases g with
  | nil => exact absurd rfl h
  | cons a g =>
    have ha := hw a (List.mem_cons_self ..)
    cases a with
    | nil => cases ha
    | cons c a => cases g <;> (intro e; cases e)
/-- the lines that come of a line begun and the words behind it -/
def lnsM (w : Nat) : List (List Nat) → List Nat → List (List Nat)
  | [], line => [line]
  | x :: ws, line => if line.isEmpty then lnsM w ws x else if line.length + 1 + x.length ≤ w then lnsM w ws (line ++ 32 :: x) else line :: lnsM w ws x
def linesL (w : Nat) (p : List Nat) : List (List Nat) := lnsM w (wordsL p) []
def wrapL (w : Nat) (x : List Nat) : List (List Nat) := (cut 10 x).flatMap (linesL w)
/-! #### by groups of words -/
/-- how many of the words stand behind a line of l signs -/
def moreN (w : Nat) : Nat → List (List Nat) → Nat
  | _, [] => 0
  | l, x :: ws => if l + 1 + x.length ≤ w then moreN w (l + 1 + x.length) ws + 1 else 0
/-- how many of the words stand in one line, one at least -/
def fitN (w : Nat) : List (List Nat) → Nat
  | [] => 0
  | x :: ws => moreN w x.length ws + 1
/-- the words, line by line -/
def grpM (w : Nat) : List (List Nat) → List (List Nat) → List (List (List Nat))
  | [], g => [g]
  | x :: ws, g => if (jn g).length + 1 + x.length ≤ w then grpM w ws (g ++ [x]) else g :: grpM w ws [x]
def brk (w : Nat) : List (List Nat) → List (List (List Nat))
  | [] => []
  | x :: ws => grpM w ws [x]
theorem lnsM_grp (w : Nat) : ∀ (ws g : List (List Nat)), (∀ x ∈ ws, 0 < x.length) → g ≠ [] → (∀ x ∈ g, 0 < x.length) → lnsM w ws (jn g) = (grpM w ws g).map jn
  | [], g, _, _, _ => rfl
  | x :: ws, g, hw, hg, hgw => by
    have hx := hw x (List.mem_cons_self ..)
    have hw' := fun y hy => hw y (List.mem_cons_of_mem x hy)
    have e1 : (jn g).isEmpty = false := by
      have := jn_ne hg hgw
      cases h : jn g with
      | nil => exact absurd h this
      | cons a b => rfl
    show (if (jn g).isEmpty = true then _ else _) = _
    rw [e1, if_neg (by decide)]
    show _ = (if (jn g).length + 1 + x.length ≤ w then grpM w ws (g ++ [x]) else g :: grpM w ws [x]).map jn
    by_cases h : (jn g).length + 1 + x.length ≤ w
    · rw [if_pos h, if_pos h, ← jn_snoc g x hg]
      refine lnsM_grp w ws _ hw' (by simp) fun y hy => ?_
      rcases List.mem_append.mp hy with h | h
      · exact hgw y h
      · rw [List.mem_singleton.mp h]; exact hx
    · rw [if_neg h, if_neg h, List.map_cons]
      have := lnsM_grp w ws [x] hw' (by simp) fun y hy => by rw [List.mem_singleton.mp hy]; exact hx
      rw [← this]; rfl
/-- the lines of a part: of its words, or one without signs -/
def lineG (w : Nat) (ws : List (List Nat)) : List (List Nat) := if ws.isEmpty then [[]] else (brk w ws).map jn
theorem lines_grp (w : Nat) (p : List Nat) : linesL w p = lineG w (wordsL p) := by
  unfold linesL lineG
  have hp : ∀ x ∈ wordsL p, 0 < x.length := fun x h => words_pos h
  generalize wordsL p = ws at hp
  cases ws with
  | nil => rfl
  | cons x ws =>
    have hx := hp x (List.mem_cons_self ..)
    show lnsM w ws x = (grpM w ws [x]).map jn
    rw [← lnsM_grp w ws [x] (fun y hy => hp y (List.mem_cons_of_mem _ hy)) (by simp) fun y hy => by rw [List.mem_singleton.mp hy]; exact hx]
    rfl
theorem grpM_more (w : Nat) : ∀ (ws g : List (List Nat)), g ≠ [] → grpM w ws g = (g ++ ws.take (moreN w (jn g).length ws)) :: brk w (ws.drop (moreN w (jn g).length ws))
  | [], g, _ => by show [g] = (g ++ []) :: []; rw [List.append_nil]
  | x :: ws, g, hg => by
    show (if (jn g).length + 1 + x.length ≤ w then grpM w ws (g ++ [x]) else g :: grpM w ws [x]) = (g ++ (x :: ws).take (if (jn g).length + 1 + x.length ≤ w then moreN w ((jn g).length + 1 + x.length) ws + 1 else 0)) :: brk w ((x :: ws).drop (if (jn g).length + 1 + x.length ≤ w then moreN w ((jn g).length + 1 + x.length) ws + 1 else 0))
    by_cases h : (jn g).length + 1 + x.length ≤ w
    · have e : (jn (g ++ [x])).length = (jn g).length + 1 + x.length := by
        rw [jn_snoc g x hg, List.length_append, List.length_cons]; omega
      rw [if_pos h, if_pos h, grpM_more w ws _ (by simp), e, List.take_succ_cons, List.drop_succ_cons, List.append_assoc]; rfl
    · rw [if_neg h, if_neg h, List.take_zero, List.drop_zero, List.append_nil]; rfl
theorem brk_cons (w : Nat) {ws : List (List Nat)} (h : ws ≠ []) : brk w ws = ws.take (fitN w ws) :: brk w (ws.drop (fitN w ws)) := by
  cases ws with
  | nil => exact absurd rfl h
  | cons x ws =>
    show grpM w ws [x] = _
    rw [grpM_more w ws [x] (by simp)]; rfl
theorem moreN_le (w : Nat) : ∀ (ws : List (List Nat)) (l : Nat), moreN w l ws ≤ ws.length
  | [], l => Nat.le_refl _
  | x :: ws, l => by
    show (if l + 1 + x.length ≤ w then moreN w (l + 1 + x.length) ws + 1 else 0) ≤ ws.length + 1
    have := moreN_le w ws (l + 1 + x.length)
    split <;> omega
theorem fitN_le (w : Nat) (ws : List (List Nat)) : fitN w ws ≤ ws.length := by
  cases ws with
  | nil => exact Nat.le_refl _
  | cons x ws => exact Nat.succ_le_succ (moreN_le w ws _)
theorem fitN_pos (w : Nat) {ws : List (List Nat)} (h : ws ≠ []) : 1 ≤ fitN w ws := by
  cases ws with
  | nil => exact absurd rfl h
  | cons x ws => exact Nat.succ_le_succ (Nat.zero_le _)
theorem take_ne {α : Type} {ws : List α} {m : Nat} (h1 : 1 ≤ m) (h : ws ≠ []) : ws.take m ≠ [] := by
  cases ws with
  | nil => exact absurd rfl h
  | cons a ws =>
    obtain ⟨k, rfl⟩ : ∃ k, m = k + 1 := ⟨m - 1, by omega⟩
    rw [List.take_succ_cons]; simp
/-- the loop: so many words stand, and so many more -/
theorem fit_step (w : Nat) {ws : List (List Nat)} {m : Nat} (h1 : 1 ≤ m) (hm : m < ws.length) : moreN w (jn (ws.take m)).length (ws.drop m) = if (jn (ws.take (m + 1))).length ≤ w then moreN w (jn (ws.take (m + 1))).length (ws.drop (m + 1)) + 1 else 0 := by
  have e1 : ws.drop m = ws[m] :: ws.drop (m + 1) := List.drop_eq_getElem_cons hm
  have e2 : ws.take (m + 1) = ws.take m ++ [ws[m]] := List.take_succ_eq_append_getElem hm
  have e3 : (jn (ws.take (m + 1))).length = (jn (ws.take m)).length + 1 + ws[m].length := by
    rw [e2, jn_snoc _ _ (take_ne h1 (by intro e; rw [e] at hm; cases hm)), List.length_append, List.length_cons]; omega
  rw [e1, e3]; rfl
theorem fit_one (w : Nat) {ws : List (List Nat)} (h : ws ≠ []) : fitN w ws = 1 + moreN w (jn (ws.take 1)).length (ws.drop 1) := by
  cases ws with
  | nil => exact absurd rfl h
  | cons x ws => show moreN w x.length ws + 1 = 1 + moreN w x.length ws; omega
theorem brk_flat (w : Nat) : ∀ (n : Nat) (ws : List (List Nat)), ws.length ≤ n → (brk w ws).flatten = ws
  | 0, ws, h => by
    have : ws = [] := List.length_eq_zero_iff.mp (by omega)
    subst this; rfl
  | n + 1, ws, h => by
    by_cases e : ws = []
    · subst e; rfl
    · have h1 := fitN_pos w e
      rw [brk_cons w e, List.flatten_cons, brk_flat w n _ (by rw [List.length_drop]; omega), List.take_append_drop]
theorem brk_words (w : Nat) (ws : List (List Nat)) : (brk w ws).flatten = ws := brk_flat w _ ws (Nat.le_refl _)
theorem brk_ne (w : Nat) : ∀ (n : Nat) (ws : List (List Nat)), ws.length ≤ n → ∀ g ∈ brk w ws, g ≠ []
  | 0, ws, h, g, hg => by
    have : ws = [] := List.length_eq_zero_iff.mp (by omega)
    subst this; cases hg
  | n + 1, ws, h, g, hg => by
    by_cases e : ws = []
    · subst e; cases hg
    · have h1 := fitN_pos w e
      rw [brk_cons w e] at hg
      rcases List.mem_cons.mp hg with rfl | hg
      · exact take_ne h1 e
      · exact brk_ne w n _ (by rw [List.length_drop]; omega) g hg
theorem brk_len (w : Nat) : ∀ (n : Nat) (ws : List (List Nat)), ws.length ≤ n → (brk w ws).length ≤ ws.length
  | 0, ws, h => by
    have : ws = [] := List.length_eq_zero_iff.mp (by omega)
    subst this; exact Nat.le_refl _
  | n + 1, ws, h => by
    by_cases e : ws = []
    · subst e; exact Nat.le_refl _
    · have h1 := fitN_pos w e
      have hl := List.length_pos_iff.mpr e
      have ih := brk_len w n (ws.drop (fitN w ws)) (by rw [List.length_drop]; omega)
      rw [brk_cons w e, List.length_cons]
      rw [List.length_drop] at ih
      have := fitN_le w ws
      omega
theorem lineG_len (w : Nat) (ws : List (List Nat)) : (lineG w ws).length ≤ ws.length + 1 := by
  unfold lineG
  split
  · exact Nat.succ_le_succ (Nat.zero_le _)
  · rw [List.length_map]
    have := brk_len w _ ws (Nat.le_refl _)
    omega
theorem linesL_len (w : Nat) (p : List Nat) : (linesL w p).length ≤ p.length + 1 := by
  rw [lines_grp]
  have := lineG_len w (wordsL p)
  have := words_count p
  omega
/-! #### the loop's bounds -/
theorem lnsM_len (w : Nat) : ∀ (ws : List (List Nat)) (line : List Nat), (lnsM w ws line).length ≤ ws.length + 1
  | [], _ => Nat.le_refl _
  | x :: ws, line => by
    show (if line.isEmpty = true then lnsM w ws x else if line.length + 1 + x.length ≤ w then lnsM w ws (line ++ 32 :: x) else line :: lnsM w ws x).length ≤ ws.length + 1 + 1
    split
    · have := lnsM_len w ws x; omega
    · split
      · have := lnsM_len w ws (line ++ 32 :: x); omega
      · have := lnsM_len w ws x
        rw [List.length_cons]; omega
theorem wrapL_len (w : Nat) (x : List Nat) : (wrapL w x).length ≤ 2 * x.length + 1 := by
  unfold wrapL
  have key : ∀ l : List (List Nat), (l.flatMap (linesL w)).length ≤ (l.map List.length).sum + l.length := by
    intro l
    induction l with
    | nil => exact Nat.le_refl _
    | cons p l ih =>
      rw [List.flatMap_cons, List.length_append, List.map_cons, List.sum_cons, List.length_cons]
      have := linesL_len w p
      omega
  have h1 := key (cut 10 x)
  have h2 := cut_sum 10 x
  have h3 := cut_len 10 x
  omega
/-! #### the words of each part, sign by sign -/
def wdsM : List (List Nat) → List Nat → List Nat → List (List (List Nat))
  | cur, _, [] => [cur]
  | cur, wd, c :: t => if c = 32 ∨ c = 10 then (if c = 10 then (if wd.isEmpty then cur else cur ++ [wd]) :: wdsM [] [] t else wdsM (if wd.isEmpty then cur else cur ++ [wd]) [] t) else wdsM cur (wd ++ [c]) t
def wordsF (wd p : List Nat) : List (List Nat) := (match cut 32 p with
  | [] => []
  | h :: ts => (wd ++ h) :: ts).filter (!·.isEmpty)
theorem wordsF_nil (p : List Nat) : wordsF [] p = wordsL p := by
  unfold wordsF wordsL
  obtain ⟨h, ts, e⟩ := cut_ne 32 p
  rw [e]; rfl
theorem wordsF_end (wd : List Nat) : wordsF wd [] = if wd.isEmpty then [] else [wd] := by
  show ([wd ++ []].filter (!·.isEmpty)) = _
  rw [List.append_nil]
  cases wd <;> rfl
theorem wordsF_blank (wd p : List Nat) : wordsF wd (32 :: p) = (if wd.isEmpty then [] else [wd]) ++ wordsL p := by
  unfold wordsF
  rw [cut_hit]
  show ((wd ++ []) :: cut 32 p).filter (!·.isEmpty) = _
  rw [List.append_nil]
  cases wd <;> rfl
theorem wordsF_sign {c : Nat} (wd p : List Nat) (h : c ≠ 32) : wordsF wd (c :: p) = wordsF (wd ++ [c]) p := by
  unfold wordsF
  obtain ⟨q, ts, e⟩ := cut_ne 32 p
  rw [cut_miss h e, e]
  simp
theorem wdsM_cut : ∀ (x : List Nat) (cur : List (List Nat)) (wd : List Nat) (p : List Nat) (ps : List (List Nat)), cut 10 x = p :: ps → wdsM cur wd (x ++ [10]) = (cur ++ wordsF wd p) :: (ps.map wordsL ++ [[]])
  | [], cur, wd, p, ps, e => by
    cases e
    rw [wordsF_end]
    show (if wd.isEmpty then cur else cur ++ [wd]) :: [[]] = _
    cases wd <;> simp
  | c :: t, cur, wd, p, ps, e => by
    obtain ⟨p', ps', e'⟩ := cut_ne 10 t
    by_cases h : c = 10
    · subst h
      rw [cut_hit, e'] at e
      cases e
      rw [wordsF_end]
      show (if wd.isEmpty then cur else cur ++ [wd]) :: wdsM [] [] (t ++ [10]) = _
      rw [wdsM_cut t [] [] p' ps' e', wordsF_nil]
      cases wd <;> simp
    · rw [cut_miss h e'] at e
      cases e
      by_cases hb : c = 32
      · subst hb
        show wdsM (if wd.isEmpty then cur else cur ++ [wd]) [] (t ++ [10]) = _
        rw [wdsM_cut t _ [] p' ps e', wordsF_nil, wordsF_blank]
        cases wd <;> simp
      · show (if c = 32 ∨ c = 10 then _ else wdsM cur (wd ++ [c]) (t ++ [10])) = _
        rw [if_neg (by simp [h, hb]), wdsM_cut t cur _ p' ps e', wordsF_sign _ _ hb]
theorem wdsM_all (x : List Nat) : wdsM [] [] (x ++ [10]) = (cut 10 x).map wordsL ++ [[]] := by
  obtain ⟨p, ps, e⟩ := cut_ne 10 x
  rw [wdsM_cut x [] [] p ps e, e, wordsF_nil]; rfl
theorem wdsM_feed {cur : List (List Nat)} {wd t : List Nat} : wdsM cur wd (10 :: t) = (if wd.isEmpty then cur else cur ++ [wd]) :: wdsM [] [] t := rfl
theorem wdsM_blank {cur : List (List Nat)} {wd t : List Nat} : wdsM cur wd (32 :: t) = wdsM (if wd.isEmpty then cur else cur ++ [wd]) [] t := rfl
theorem wdsM_sign {cur : List (List Nat)} {wd t : List Nat} {c : Nat} (h : ¬ (c = 32 ∨ c = 10)) : wdsM cur wd (c :: t) = wdsM cur (wd ++ [c]) t := by
  show (if c = 32 ∨ c = 10 then _ else _) = _
  rw [if_neg h]
/-- a list of words, of lists of words -/
abbrev txV (l : List Nat) : V := .str (sO l)
def WdsAt (H : Hp) (v : V) (ws : List (List Nat)) : Prop := ∃ a, v = .ref a ∧ H a = some (.lst (ws.map txV))
def PtsAt (H : Hp) (p : Addr) (ps : List (List (List Nat))) : Prop := ∃ vs : List V, H p = some (.lst vs) ∧ vs.length = ps.length ∧ ∀ (i : Nat) (v : V) (w : List (List Nat)), vs[i]? = some v → ps[i]? = some w → WdsAt H v w
theorem WdsAt.same {H H' : Hp} {v : V} {ws : List (List Nat)} (h : WdsAt H v ws) (s : Same H H') : WdsAt H' v ws := let ⟨a, e, g⟩ := h; ⟨a, e, s _ _ g⟩
theorem PtsAt.same {H H' : Hp} {p : Addr} {ps : List (List (List Nat))} (h : PtsAt H p ps) (s : Same H H') : PtsAt H' p ps := let ⟨vs, g, l, k⟩ := h; ⟨vs, s _ _ g, l, fun i v w a b => (k i v w a b).same s⟩
/-- .. that stand apart from the source -/
theorem WdsAt.dr {H H' : Hp} {a : Addr} {v : V} {ws : List (List Nat)} (h : WdsAt H v ws) (hs : Src H a) (d : Dr a H H') : WdsAt H' v ws := by
  obtain ⟨b, e, g⟩ := h
  refine ⟨b, e, d.app ?_ g⟩
  rintro rfl
  obtain ⟨s, hs⟩ := hs
  rw [g] at hs
  cases ws with
  | nil => cases hs
  | cons w ws => cases hs
theorem PtsAt.dr {H H' : Hp} {a p : Addr} {ps : List (List (List Nat))} (h : PtsAt H p ps) (hs : Src H a) (d : Dr a H H') : PtsAt H' p ps := by
  obtain ⟨vs, g, l, k⟩ := h
  refine ⟨vs, d.app ?_ g, l, fun i v w e1 e2 => (k i v w e1 e2).dr hs d⟩
  rintro rfl
  obtain ⟨s, hs⟩ := hs
  rw [g] at hs
  cases hs
  cases ps with
  | nil => cases l
  | cons w ps =>
    obtain ⟨b, e, _⟩ := k 0 _ w rfl rfl
    cases e
theorem take_sum (ws : List (List Nat)) (m : Nat) : ((ws.take m).map List.length).sum + (ws.take m).length ≤ (ws.map List.length).sum + ws.length := by
  conv => rhs; rw [← List.take_append_drop m ws]
  rw [List.map_append, List.sum_append, List.length_append]; omega
theorem jn_take_len (ws : List (List Nat)) (m : Nat) : (jn (ws.take m)).length ≤ (ws.map List.length).sum + ws.length := by
  have := take_sum ws m
  show (TL.joinL [32] (ws.take m)).length ≤ _
  rw [joinL_len]; omega
theorem PtsAt.pairs {H : Hp} {p : Addr} {ps : List (List (List Nat))} (h : PtsAt H p ps) : ∃ ys : List (V × List (List Nat)), H p = some (.lst (ys.map Prod.fst)) ∧ ys.map Prod.snd = ps ∧ ∀ y ∈ ys, WdsAt H y.1 y.2 := by
  obtain ⟨vs, g, l, k⟩ := h
  refine ⟨vs.zip ps, by rw [g, List.map_fst_zip (by omega)], List.map_snd_zip (by omega), fun y hy => ?_⟩
  obtain ⟨i, hi, e⟩ := List.getElem_of_mem hy
  rw [List.length_zip] at hi
  have e2 := List.getElem_zip (l := vs) (l' := ps) (i := i) (h := by rw [List.length_zip]; exact hi)
  rw [e] at e2
  rw [e2]
  exact k i _ _ (List.getElem?_eq_getElem (by omega)) (List.getElem?_eq_getElem (by omega))
theorem drop_sum (ws : List (List Nat)) (m : Nat) : ((ws.drop m).map List.length).sum + (ws.drop m).length ≤ (ws.map List.length).sum + ws.length := by
  conv => rhs; rw [← List.take_append_drop m ws]
  rw [List.map_append, List.sum_append, List.length_append]; omega
theorem max0_of {l : List Nat} {m : Int} (h : m ∈ (0 :: l).map Int.ofNat) (g : ∀ y ∈ (0 :: l).map Int.ofNat, y ≤ m) : m = ((maxN l : Nat) : Int) := by
  rw [maxN_of h g]
  show ((max 0 (maxN l) : Nat) : Int) = _
  rw [Nat.zero_max]
theorem lens_V (ws : List (List Nat)) : [V.int 0] ++ ws.map (fun y => V.int (y.length : Nat)) = ((0 :: ws.map List.length).map Int.ofNat).map V.int := by
  rw [List.map_cons, List.map_cons, List.map_map, List.map_map]; rfl
theorem lineG_pos (w : Nat) (ws : List (List Nat)) : 1 ≤ (lineG w ws).length := by
  unfold lineG
  split
  · exact Nat.le_refl _
  · rename_i h
    have h : ws ≠ [] := fun e => h (by rw [e]; rfl)
    rw [brk_cons w h, List.map_cons, List.length_cons]; exact Nat.succ_le_succ (Nat.zero_le _)
/-- the parts of a text, and its words -/
theorem parts_ok {l : List Nat} {m : Nat} (h : l.length ≤ m) : (cut 10 l).map wordsL ≠ [] ∧ ((cut 10 l).map wordsL).length ≤ m + 1 ∧ ∀ ws ∈ (cut 10 l).map wordsL, (ws.map List.length).sum + ws.length ≤ 2 * m := by
  obtain ⟨p, ps, e⟩ := cut_ne 10 l
  refine ⟨by rw [e]; simp, by rw [List.length_map]; have := cut_len 10 l; omega, fun ws hw => ?_⟩
  obtain ⟨p, hp, rfl⟩ := List.mem_map.mp hw
  have h1 := part_len hp
  have h2 := words_sum p
  have h3 := words_count p
  omega
theorem flat_at {α β : Type} (f : α → List β) {l : List α} {i : Nat} {y : α} (h : l[i]? = some y) : l.flatMap f = (l.take i).flatMap f ++ (f y ++ (l.drop (i + 1)).flatMap f) := by
  have hi := (List.getElem?_eq_some_iff.mp h).1
  conv => lhs; rw [← List.take_append_drop i l, List.flatMap_append, List.drop_eq_getElem_cons hi, List.flatMap_cons, (List.getElem?_eq_some_iff.mp h).2]
theorem flat_take_succ {α β : Type} (f : α → List β) {l : List α} {i : Nat} {y : α} (h : l[i]? = some y) : (l.take (i + 1)).flatMap f = (l.take i).flatMap f ++ f y := by
  rw [List.take_add_one, h, List.flatMap_append]; simp
theorem tx_ne {H : Hp} {a b : Addr} {ws : List (List Nat)} (h : H b = some (.lst (ws.map txV))) (hs : Src H a) : b ≠ a := by
  rintro rfl
  obtain ⟨s, hs⟩ := hs
  rw [h] at hs
  cases ws with
  | nil => cases hs
  | cons w ws => cases hs
end My

/-! ### == and != of lists of texts; a comprehension within one -/
namespace My
open PySem PySem.Spec PyProof.Rows L2
def rEqTx (K : PySem.W.Frag) : R2 := fun x y H Q => ∃ (a b : Addr) (xs ys : List (List Nat)), x = .ref a ∧ y = .ref b ∧ SqL K H a (xs.map txV) ∧ SqL K H b (ys.map txV) ∧ Q (.bl (decide (xs = ys))) H
def rNeTx (K : PySem.W.Frag) : R2 := fun x y H Q => ∃ (a b : Addr) (xs ys : List (List Nat)), x = .ref a ∧ y = .ref b ∧ SqL K H a (xs.map txV) ∧ SqL K H b (ys.map txV) ∧ Q (.bl (!decide (xs = ys))) H
theorem eqV_tx (a b : List Nat) : eqV (txV a) (txV b) = decide (a = b) := by
  show (sO a == sO b) = decide (a = b)
  rw [Bool.eq_iff_iff, beq_iff_eq, decide_eq_true_iff]
  exact ⟨fun h => by simpa [sO] using h, fun h => by rw [h]⟩
theorem tx_all {A : Around} {s : Shared} : ∀ {xs ys : List (List Nat)} {us ws : List Value}, Vals (xs.map txV) us → Vals (ys.map txV) ws → ∀ j (h1 : j < us.length) (h2 : j < ws.length), SeqAt.EqAt A s us[j] ws[j] (decide (xs[j]? = ys[j]?))
  | [], _, _, _, .nil, _, j, h1, _ => absurd h1 (Nat.not_lt_zero j)
  | _ :: _, [], _, _, .cons _ _, .nil, j, _, h2 => absurd h2 (Nat.not_lt_zero j)
  | x :: xs, y :: ys, _, _, .cons a1 b1, .cons a2 b2, 0, _, _ => by
    have := eqAt_V (A := A) (s := s) a1 a2 rfl rfl
    rw [eqV_tx] at this
    rw [show decide ((x :: xs)[0]? = (y :: ys)[0]?) = decide (x = y) from by
      rw [List.getElem?_cons_zero, List.getElem?_cons_zero]; exact decide_eq_decide.mpr ⟨fun e => Option.some.inj e, fun e => by rw [e]⟩]
    exact this
  | x :: xs, y :: ys, _, _, .cons a1 b1, .cons a2 b2, j + 1, h1, h2 => by
    have := tx_all (A := A) (s := s) b1 b2 j (Nat.lt_of_succ_lt_succ h1) (Nat.lt_of_succ_lt_succ h2)
    simpa using this
theorem all_dec {xs ys : List (List Nat)} (h : xs.length = ys.length) : ((List.range xs.length).all fun j => decide (xs[j]? = ys[j]?)) = decide (xs = ys) := by
  rw [Bool.eq_iff_iff, List.all_eq_true, decide_eq_true_iff]
  refine ⟨fun k => List.ext_getElem? fun j => ?_, fun e j _ => by rw [e]; exact decide_eq_true rfl⟩
  by_cases hj : j < xs.length
  · exact of_decide_eq_true (k j (List.mem_range.mpr hj))
  · rw [List.getElem?_eq_none (by omega), List.getElem?_eq_none (by omega)]
theorem op_eqTx {X : Cx} (hu : X.A.units + 64 < cLine) : OpR X (compareOp .Eq) (rEqTx X.K) := by
  intro pins s σ H x y v u Q I rx ry h
  obtain ⟨a, b, xs, ys, rfl, rfl, ha, hb, q⟩ := h
  cases (show v = Value.ref a from rx)
  cases (show u = Value.ref b from ry)
  obtain ⟨us, r1, p1, _⟩ := I.list ha
  obtain ⟨ws, r2, p2, _⟩ := I.list hb
  have l1 := r1.length
  have l2 := r2.length
  rw [List.length_map] at l1 l2
  by_cases hl : xs.length = ys.length
  · have hsz : us.toArray.size = ws.toArray.size := by
      rw [List.size_toArray, List.size_toArray]; omega
    have k := SeqAt.RcAt.lists (A := X.A) (e := fun j => decide (xs[j]? = ys[j]?)) p1.isList p2.isList hsz (show X.A.units < cLine by omega) (fun j h1 h2 => by
      have := tx_all (A := X.A.in1) (s := s) r1 r2 j (by simpa using h1) (by simpa using h2)
      simpa using this)
    rw [List.size_toArray, show us.length = xs.length from by omega, all_dec hl] at k
    exact k _ _ _ _ ⟨.bl _, H, I, rfl, q⟩
  · have k := SeqAt.RcAt.lists_lengths (A := X.A) p1.isList p2.isList (show (us.toArray.size != ws.toArray.size) = true by simp; omega) (show X.A.units < cLine by omega)
    rw [decide_eq_false (fun e => hl (by rw [e]))] at q
    exact k _ _ _ _ ⟨.bl false, H, I, rfl, q⟩
theorem op_neTx {X : Cx} (hu : X.A.units + 64 < cLine) : OpR X (compareOp .NotEq) (rNeTx X.K) := by
  intro pins s σ H x y v u Q I rx ry h
  obtain ⟨a, b, xs, ys, rfl, rfl, ha, hb, q⟩ := h
  cases (show v = Value.ref a from rx)
  cases (show u = Value.ref b from ry)
  obtain ⟨us, r1, p1, _⟩ := I.list ha
  obtain ⟨ws, r2, p2, _⟩ := I.list hb
  have l1 := r1.length
  have l2 := r2.length
  rw [List.length_map] at l1 l2
  by_cases hl : xs.length = ys.length
  · have hsz : us.toArray.size = ws.toArray.size := by
      rw [List.size_toArray, List.size_toArray]; omega
    have k := SeqAt.RcNeAt.lists (A := X.A) (e := fun j => decide (xs[j]? = ys[j]?)) p1.isList p2.isList hsz (show X.A.units < cLine by omega) (fun j h1 h2 => by
      have := tx_all (A := X.A.in1) (s := s) r1 r2 j (by simpa using h1) (by simpa using h2)
      simpa using this)
    rw [List.size_toArray, show us.length = xs.length from by omega, all_dec hl] at k
    exact k _ _ _ _ ⟨.bl _, H, I, rfl, q⟩
  · have k := SeqAt.RcNeAt.lists_lengths (A := X.A) p1.isList p2.isList (show (us.toArray.size != ws.toArray.size) = true by simp; omega) (show X.A.units < cLine by omega)
    rw [decide_eq_false (fun e => hl (by rw [e]))] at q
    exact k _ _ _ _ ⟨.bl true, H, I, rfl, q⟩
theorem op_eqTxK {X : Cx} {K : PySem.W.Frag} (hu : X.A.units + 64 < cLine) (h : X.K = K) : OpR X (compareOp .Eq) (rEqTx K) := by subst h; exact op_eqTx hu
theorem op_neTxK {X : Cx} {K : PySem.W.Frag} (hu : X.A.units + 64 < cLine) (h : X.K = K) : OpR X (compareOp .NotEq) (rNeTx K) := by subst h; exact op_neTx hu
/-- a block within a block: its scope hands nothing on -/
theorem blkOk_any {N : List Str} {sc scope : Scope} {own : List (Str × Nat)} (h : blkC N { kind := .function, names := [], isGenerator := false, isCoroutine := false } scope own = true) : BlkOk N sc scope own := by
  have b := blkOk_by h
  exact ⟨b.kind, b.uniq, b.ix, fun y hy e => (b.free y hy e).elim (fun z => by cases z) (fun z => by cases z), b.own⟩
end My

/-! ### broken lines: what fits, other breakings, no fewer lines -/
namespace My
open PySem L2
/-! #### words have no blanks -/
theorem cut_no (c : Nat) : ∀ (l p : List Nat), p ∈ cut c l → c ∉ p
  | [], p, h => by rw [List.mem_singleton.mp h]; simp
  | d :: r, p, h => by
    have ih := cut_no c r
    obtain ⟨q, qs, e⟩ := cut_ne c r
    by_cases hd : d = c
    · subst hd
      rw [cut_hit] at h
      rcases List.mem_cons.mp h with rfl | h
      · simp
      · exact ih p h
    · rw [cut_miss hd e] at h
      rw [e] at ih
      rcases List.mem_cons.mp h with rfl | h
      · have := ih q (List.mem_cons_self ..)
        simp [this]; exact fun e => hd e.symm
      · exact ih p (List.mem_cons_of_mem _ h)
theorem cut_none (c : Nat) : ∀ p : List Nat, c ∉ p → cut c p = [p]
  | [], _ => rfl
  | d :: r, h => by
    have hd : d ≠ c := fun e => h (by rw [e]; exact List.mem_cons_self ..)
    rw [cut_miss hd (cut_none c r fun hr => h (List.mem_cons_of_mem _ hr))]
theorem cut_join (c : Nat) : ∀ g : List (List Nat), g ≠ [] → (∀ p ∈ g, c ∉ p) → cut c (TL.joinL [c] g) = g
  | [], h, _ => absurd rfl h
  | [p], _, h => cut_none c p (h p (List.mem_cons_self ..))
  | p :: q :: g, _, h => by
    have ih := cut_join c (q :: g) (by simp) fun y hy => h y (List.mem_cons_of_mem _ hy)
    show cut c (p ++ ([c] ++ TL.joinL [c] (q :: g))) = _
    rw [List.singleton_append, cut_append, cut_none c p (h p (List.mem_cons_self ..)), ih]; rfl
/-- words: of at least one sign, without blanks -/
def Wd (x : List Nat) : Prop := 0 < x.length ∧ 32 ∉ x
theorem words_wd {p x : List Nat} (h : x ∈ wordsL p) : Wd x := ⟨words_pos h, cut_no 32 p x (List.mem_filter.mp h).1⟩
theorem split_jn {g : List (List Nat)} (hn : g ≠ []) (h : ∀ x ∈ g, Wd x) : cut 32 (jn g) = g := cut_join 32 g hn fun x hx => (h x hx).2
theorem words_jn {g : List (List Nat)} (h : ∀ x ∈ g, Wd x) : wordsL (jn g) = g := by
  by_cases hn : g = []
  · subst hn; rfl
  · unfold wordsL
    rw [split_jn hn h, List.filter_eq_self]
    intro x hx
    have := (h x hx).1
    cases x with
    | nil => cases this
    | cons a x => rfl
/-! #### what fits -/
def lsum (ws : List (List Nat)) : Nat := (ws.map List.length).sum
theorem lsum_cons (x : List Nat) (ws : List (List Nat)) : lsum (x :: ws) = x.length + lsum ws := by unfold lsum; rw [List.map_cons, List.sum_cons]
theorem lsum_append (a b : List (List Nat)) : lsum (a ++ b) = lsum a + lsum b := by unfold lsum; rw [List.map_append, List.sum_append]
theorem jn_len (g : List (List Nat)) : (jn g).length = lsum g + (g.length - 1) := joinL_len 32 g
theorem more_fits (w : Nat) : ∀ (ws : List (List Nat)) (l j : Nat), 1 ≤ j → j ≤ moreN w l ws → l + lsum (ws.take j) + j ≤ w
  | [], l, j, h1, h2 => by have : moreN w l [] = 0 := rfl; omega
  | x :: ws, l, j, h1, h2 => by
    have h2 : j ≤ if l + 1 + x.length ≤ w then moreN w (l + 1 + x.length) ws + 1 else 0 := h2
    split at h2
    · rename_i h
      obtain ⟨k, rfl⟩ : ∃ k, j = k + 1 := ⟨j - 1, by omega⟩
      rw [List.take_succ_cons, lsum_cons]
      by_cases hk : k = 0
      · subst hk
        rw [List.take_zero]
        show l + (x.length + 0) + 1 ≤ w
        omega
      · have := more_fits w ws (l + 1 + x.length) k (by omega) (by omega)
        omega
    · omega
theorem more_ge (w : Nat) : ∀ (ws : List (List Nat)) (l j : Nat), j ≤ ws.length → l + lsum (ws.take j) + j ≤ w → j ≤ moreN w l ws
  | ws, l, 0, _, _ => Nat.zero_le _
  | [], l, j + 1, h1, _ => by cases h1
  | x :: ws, l, j + 1, h1, h2 => by
    rw [List.take_succ_cons, lsum_cons] at h2
    show j + 1 ≤ if l + 1 + x.length ≤ w then moreN w (l + 1 + x.length) ws + 1 else 0
    rw [if_pos (by omega)]
    have := more_ge w ws (l + 1 + x.length) j (Nat.le_of_succ_le_succ h1) (by omega)
    omega
theorem fit_fits {w : Nat} {ws : List (List Nat)} {j : Nat} (h1 : 2 ≤ j) (h2 : j ≤ fitN w ws) : (jn (ws.take j)).length ≤ w := by
  cases ws with
  | nil => cases Nat.le_trans h1 h2
  | cons x ws =>
    have h2 : j ≤ moreN w x.length ws + 1 := h2
    obtain ⟨k, rfl⟩ : ∃ k, j = k + 1 := ⟨j - 1, by omega⟩
    have := more_fits w ws x.length k (by omega) (by omega)
    have hl := moreN_le w ws x.length
    rw [jn_len, List.take_succ_cons, lsum_cons, List.length_cons, List.length_take]
    omega
theorem fit_ge {w : Nat} {ws : List (List Nat)} {j : Nat} (h1 : j ≤ ws.length) (h2 : (jn (ws.take j)).length ≤ w) : j ≤ fitN w ws := by
  cases ws with
  | nil => exact h1
  | cons x ws =>
    show j ≤ moreN w x.length ws + 1
    cases j with
    | zero => omega
    | succ k =>
      rw [jn_len, List.take_succ_cons, lsum_cons, List.length_cons, List.length_take] at h2
      have h1 : k ≤ ws.length := Nat.le_of_succ_le_succ h1
      have := more_ge w ws x.length k h1 (by omega)
      omega
theorem fit_wide {w w' : Nat} (h : w ≤ w') (ws : List (List Nat)) : fitN w ws ≤ fitN w' ws := by
  by_cases h2 : 2 ≤ fitN w ws
  · exact fit_ge (fitN_le w ws) (Nat.le_trans (fit_fits h2 (Nat.le_refl _)) h)
  · by_cases e : ws = []
    · subst e; exact Nat.le_refl _
    · have := fitN_pos w' e; omega
/-- who begins farther on comes as far -/
theorem fit_far {w a b m : Nat} {ws : List (List Nat)} (hab : a ≤ b) (hb : b < ws.length) (h : m ≤ a + fitN w (ws.drop a)) : m ≤ b + fitN w (ws.drop b) := by
  have hne : ws.drop b ≠ [] := fun e => by have := congrArg List.length e; rw [List.length_drop] at this; simp at this; omega
  have hp := fitN_pos w hne
  by_cases h1 : m ≤ b + 1
  · omega
  · by_cases e : a = b
    · rw [← e]; exact h
    · have hl := fitN_le w (ws.drop a)
      rw [List.length_drop] at hl
      have hf := fit_fits (w := w) (ws := ws.drop a) (j := m - a) (by omega) (by omega)
      have hd : (ws.drop a).take (m - a) = (ws.drop a).take (b - a) ++ (ws.drop b).take (m - b) := by
        have e1 : ws.drop b = (ws.drop a).drop (b - a) := by rw [List.drop_drop]; congr 1; omega
        rw [e1, show m - a = (b - a) + (m - b) by omega, List.take_add]
      have : m - b ≤ fitN w (ws.drop b) := by
        refine fit_ge (by rw [List.length_drop]; omega) (Nat.le_trans ?_ hf)
        rw [jn_len, jn_len, hd, lsum_append, List.length_append]; omega
      omega
/-! #### other breakings -/
def BrkOk (w : Nat) (ws : List (List Nat)) : Nat → List Nat → Prop
  | a, [] => ws.length ≤ a
  | a, m :: r => a < m ∧ m ≤ a + fitN w (ws.drop a) ∧ BrkOk w ws m r
/-- how many words stand in the first lines -/
def cumL : Nat → List (List (List Nat)) → List Nat
  | _, [] => []
  | s, g :: gs => (s + g.length) :: cumL (s + g.length) gs
theorem cumL_len : ∀ (gs : List (List (List Nat))) (s : Nat), (cumL s gs).length = gs.length
  | [], _ => rfl
  | g :: gs, s => by show (cumL _ gs).length + 1 = gs.length + 1; rw [cumL_len gs]
theorem brk_drop {w b : Nat} {ws : List (List Nat)} (hb : b < ws.length) : brk w (ws.drop b) = (ws.drop b).take (fitN w (ws.drop b)) :: brk w (ws.drop (b + fitN w (ws.drop b))) := by
  have hne : ws.drop b ≠ [] := fun e => by have := congrArg List.length e; rw [List.length_drop] at this; simp at this; omega
  rw [brk_cons w hne, List.drop_drop]
theorem brk_nil_of {w b : Nat} {ws : List (List Nat)} (hb : ws.length ≤ b) : brk w (ws.drop b) = [] := by
  rw [List.drop_of_length_le hb]; rfl
theorem cum_ahead (w : Nat) (ws : List (List Nat)) : ∀ (ms : List Nat) (a b : Nat), a ≤ b → BrkOk w ws a ms → (cumL b (brk w (ws.drop b))).length ≤ ms.length ∧ ∀ (i t m : Nat), (cumL b (brk w (ws.drop b)))[i]? = some t → ms[i]? = some m → m ≤ t
  | ms, a, b, hab, h => by
    by_cases hb : b < ws.length
    · cases ms with
      | nil =>
        have h : ws.length ≤ a := h
        omega
      | cons m r =>
        obtain ⟨h1, h2, h3⟩ := h
        have hm := fit_far hab hb h2
        have hfl := fitN_le w (ws.drop b)
        have hne : ws.drop b ≠ [] := fun e => by have := congrArg List.length e; rw [List.length_drop] at this; simp at this; omega
        have ih := cum_ahead w ws r m (b + fitN w (ws.drop b)) hm h3
        rw [brk_drop hb]
        have e1 : b + ((ws.drop b).take (fitN w (ws.drop b))).length = b + fitN w (ws.drop b) := by rw [List.length_take, Nat.min_eq_left hfl]
        have e2 : cumL b ((ws.drop b).take (fitN w (ws.drop b)) :: brk w (ws.drop (b + fitN w (ws.drop b)))) = (b + fitN w (ws.drop b)) :: cumL (b + fitN w (ws.drop b)) (brk w (ws.drop (b + fitN w (ws.drop b)))) := by
          show (b + _) :: cumL (b + _) _ = _
          rw [e1]
        rw [e2]
        refine ⟨Nat.succ_le_succ ih.1, fun i t m' ht hm' => ?_⟩
        cases i with
        | zero => cases ht; cases hm'; exact hm
        | succ i => exact ih.2 i t m' ht hm'
    · rw [brk_nil_of (by omega)]
      exact ⟨Nat.zero_le _, fun i t m ht => by cases ht⟩
/-- the lines at a width are a breaking at any greater one -/
theorem brk_ok {w w' : Nat} (h : w ≤ w') (ws : List (List Nat)) : ∀ (n b : Nat), ws.length - b ≤ n → b ≤ ws.length → BrkOk w' ws b (cumL b (brk w (ws.drop b)))
  | 0, b, hn, hl => by
    rw [brk_nil_of (by omega)]
    show ws.length ≤ b
    omega
  | n + 1, b, hn, hl => by
    by_cases hb : b < ws.length
    · have hfl := fitN_le w (ws.drop b)
      have hne : ws.drop b ≠ [] := fun e => by have := congrArg List.length e; rw [List.length_drop] at this; simp at this; omega
      have hp := fitN_pos w hne
      have hw := fit_wide h (ws.drop b)
      rw [List.length_drop] at hfl
      rw [brk_drop hb]
      have e1 : b + ((ws.drop b).take (fitN w (ws.drop b))).length = b + fitN w (ws.drop b) := by rw [List.length_take, List.length_drop, Nat.min_eq_left hfl]
      show BrkOk w' ws b ((b + _) :: cumL (b + _) _)
      rw [e1]
      exact ⟨by omega, by omega, brk_ok h ws n _ (by omega) (by omega)⟩
    · rw [brk_nil_of (by omega)]
      show ws.length ≤ b
      omega
theorem brk_fewer {w w' : Nat} (h : w ≤ w') (ws : List (List Nat)) : (brk w' ws).length ≤ (brk w ws).length := by
  have h1 := (cum_ahead w' ws _ 0 0 (Nat.le_refl _) (brk_ok h ws _ 0 (Nat.le_refl _) (Nat.zero_le _))).1
  rwa [cumL_len, cumL_len, List.drop_zero] at h1
/-! #### each line: it fits, or it is one word -/
theorem brk_fits (w : Nat) : ∀ (n : Nat) (ws : List (List Nat)), ws.length ≤ n → ∀ g ∈ brk w ws, g.length = 1 ∨ (jn g).length ≤ w
  | 0, ws, h, g, hg => by
    have : ws = [] := List.length_eq_zero_iff.mp (by omega)
    subst this; cases hg
  | n + 1, ws, h, g, hg => by
    by_cases e : ws = []
    · subst e; cases hg
    · have h1 := fitN_pos w e
      have hfl := fitN_le w ws
      rw [brk_cons w e] at hg
      rcases List.mem_cons.mp hg with rfl | hg
      · by_cases h2 : 2 ≤ fitN w ws
        · exact .inr (fit_fits h2 (Nat.le_refl _))
        · exact .inl (by rw [List.length_take]; omega)
      · exact brk_fits w n _ (by rw [List.length_drop]; omega) g hg
theorem brk_line {w w' : Nat} (h : w ≤ w') {ws g : List (List Nat)} (hg : g ∈ brk w ws) : brk w' g = [g] := by
  have hn := brk_ne w _ ws (Nat.le_refl _) g hg
  have e : fitN w' g = g.length := by
    refine Nat.le_antisymm (fitN_le _ _) ?_
    rcases brk_fits w _ ws (Nat.le_refl _) g hg with h1 | h1
    · rw [h1]; exact fitN_pos w' hn
    · exact fit_ge (Nat.le_refl _) (by rw [List.take_length]; exact Nat.le_trans h1 h)
  rw [brk_cons w' hn, e, List.take_length, List.drop_length]; rfl
theorem brk_mem {w : Nat} {ws g : List (List Nat)} (hg : g ∈ brk w ws) {x : List Nat} (hx : x ∈ g) : x ∈ ws := by
  rw [← brk_words w ws]
  exact List.mem_flatten.mpr ⟨g, hg, hx⟩
/-! #### the lines of a part as told by their words -/
theorem cumL_last : ∀ (gs : List (List (List Nat))) (s : Nat), gs ≠ [] → ∃ ini, cumL s gs = ini ++ [s + gs.flatten.length]
  | [], _, h => absurd rfl h
  | [g], s, _ => ⟨[], by show [s + g.length] = [s + ([g].flatten).length]; rw [List.flatten_cons, List.flatten_nil, List.append_nil]⟩
  | g :: g2 :: gs, s, _ => by
    obtain ⟨ini, e⟩ := cumL_last (g2 :: gs) (s + g.length) (by simp)
    refine ⟨(s + g.length) :: ini, ?_⟩
    show (s + g.length) :: cumL (s + g.length) (g2 :: gs) = _
    rw [e, List.flatten_cons (l := g), List.length_append, Nat.add_assoc]; rfl
theorem jn_app : ∀ (a b : List (List Nat)), a ≠ [] → b ≠ [] → jn (a ++ b) = jn a ++ 32 :: jn b
  | [], _, h, _ => absurd rfl h
  | [x], y :: b, _, _ => rfl
  | [x], [], _, h => absurd rfl h
  | x :: y :: a, b, _, hb => by
    have ih := jn_app (y :: a) b (by simp) hb
    show x ++ ([32] ++ jn (y :: a ++ b)) = (x ++ ([32] ++ jn (y :: a))) ++ 32 :: jn b
    rw [ih]; simp
theorem jn_jn : ∀ gs : List (List (List Nat)), (∀ g ∈ gs, g ≠ []) → jn (gs.map jn) = jn gs.flatten
  | [], _ => rfl
  | [g], _ => by rw [List.flatten_cons, List.flatten_nil, List.append_nil]; rfl
  | g :: g2 :: gs, h => by
    have ih := jn_jn (g2 :: gs) fun x hx => h x (List.mem_cons_of_mem _ hx)
    have h2 : (g2 :: gs).flatten ≠ [] := fun e => h g2 (by simp) (by rw [List.flatten_cons] at e; exact (List.append_eq_nil_iff.mp e).1)
    rw [List.flatten_cons, jn_app g _ (h g (by simp)) h2, ← ih]; rfl
theorem lineG_brk {w : Nat} {ws : List (List Nat)} (h : ws ≠ []) : lineG w ws = (brk w ws).map jn := by
  unfold lineG
  rw [if_neg (by rw [List.isEmpty_iff]; exact h)]
theorem brk_nonempty {w : Nat} {ws : List (List Nat)} (h : ws ≠ []) : brk w ws ≠ [] := by rw [brk_cons w h]; simp
theorem brk_okc {w : Nat} (ws : List (List Nat)) : BrkOk w ws 0 (cumL 0 (brk w ws)) := by
  have := brk_ok (Nat.le_refl w) ws _ 0 (Nat.le_refl _) (Nat.zero_le _)
  rwa [List.drop_zero] at this
theorem brk_ahead {w : Nat} {ws : List (List Nat)} {ms : List Nat} (h : BrkOk w ws 0 ms) : (cumL 0 (brk w ws)).length ≤ ms.length ∧ ∀ (i t m : Nat), (cumL 0 (brk w ws))[i]? = some t → ms[i]? = some m → m ≤ t := by
  have := cum_ahead w ws ms 0 0 (Nat.le_refl _) h
  rwa [List.drop_zero] at this
theorem flat_sum : ∀ {gs : List (List (List Nat))} {g : List (List Nat)}, g ∈ gs → (g.map List.length).sum + g.length ≤ (gs.flatten.map List.length).sum + gs.flatten.length
  | h :: gs, g, hg => by
    rw [List.flatten_cons, List.map_append, List.sum_append, List.length_append]
    rcases List.mem_cons.mp hg with rfl | hg
    · omega
    · have := flat_sum hg; omega
theorem flat_len : ∀ {gs : List (List (List Nat))}, (∀ g ∈ gs, g ≠ []) → gs.length ≤ gs.flatten.length
  | [], _ => Nat.le_refl _
  | g :: gs, h => by
    have := flat_len fun x hx => h x (List.mem_cons_of_mem g hx)
    have := List.length_pos_iff.mpr (h g (List.mem_cons_self ..))
    rw [List.flatten_cons, List.length_append, List.length_cons]; omega
end My

/-! ### lines put together again; wider and wider -/
namespace My
open PySem L2
theorem cut_sub (c : Nat) : ∀ (l p : List Nat), p ∈ cut c l → ∀ d ∈ p, d ∈ l
  | [], p, h, d, hd => by rw [List.mem_singleton.mp h] at hd; cases hd
  | e :: r, p, h, d, hd => by
    have ih := cut_sub c r
    obtain ⟨q, qs, eq⟩ := cut_ne c r
    by_cases he : e = c
    · subst he
      rw [cut_hit] at h
      rcases List.mem_cons.mp h with rfl | h
      · cases hd
      · exact List.mem_cons_of_mem _ (ih p h d hd)
    · rw [cut_miss he eq] at h
      rw [eq] at ih
      rcases List.mem_cons.mp h with rfl | h
      · rcases List.mem_cons.mp hd with rfl | hd
        · exact List.mem_cons_self ..
        · exact List.mem_cons_of_mem _ (ih q (List.mem_cons_self ..) d hd)
      · exact List.mem_cons_of_mem _ (ih p (List.mem_cons_of_mem _ h) d hd)
theorem jn_sub : ∀ (g : List (List Nat)) (d : Nat), d ∈ jn g → d = 32 ∨ ∃ x ∈ g, d ∈ x
  | [], d, h => by cases h
  | [x], d, h => .inr ⟨x, List.mem_cons_self .., h⟩
  | x :: y :: g, d, h => by
    have h : d ∈ x ++ ([32] ++ jn (y :: g)) := h
    rcases List.mem_append.mp h with h | h
    · exact .inr ⟨x, List.mem_cons_self .., h⟩
    · rcases List.mem_append.mp h with h | h
      · exact .inl (List.mem_singleton.mp h)
      · exact (jn_sub (y :: g) d h).imp id fun ⟨z, hz, hd⟩ => ⟨z, List.mem_cons_of_mem _ hz, hd⟩
theorem word_no10 {x p w : List Nat} (hp : p ∈ cut 10 x) (hw : w ∈ wordsL p) : 10 ∉ w := fun h => cut_no 10 x p hp (cut_sub 32 p w (List.mem_filter.mp hw).1 10 h)
/-- a line told: of words of the part, as many as stand -/
theorem line_of {w : Nat} {p y : List Nat} (h : y ∈ linesL w p) : (y = [] ∧ wordsL p = []) ∨ ∃ g ∈ brk w (wordsL p), y = jn g := by
  rw [lines_grp] at h
  unfold lineG at h
  split at h
  · rename_i e
    exact .inl ⟨List.mem_singleton.mp h, List.isEmpty_iff.mp e⟩
  · obtain ⟨g, hg, rfl⟩ := List.mem_map.mp h
    exact .inr ⟨g, hg, rfl⟩
theorem line_no10 {w : Nat} {x y : List Nat} (h : y ∈ wrapL w x) : 10 ∉ y := by
  obtain ⟨p, hp, hy⟩ := List.mem_flatMap.mp h
  rcases line_of hy with ⟨rfl, _⟩ | ⟨g, hg, rfl⟩
  · simp
  · intro h10
    rcases jn_sub g 10 h10 with e | ⟨z, hz, hd⟩
    · cases e
    · exact word_no10 hp (brk_mem hg hz) hd
theorem brk_wd {w : Nat} {p : List Nat} {g : List (List Nat)} (hg : g ∈ brk w (wordsL p)) : ∀ z ∈ g, Wd z := fun z hz => words_wd (brk_mem hg hz)
theorem line_self {w w' : Nat} (h : w ≤ w') {p y : List Nat} (hy : y ∈ linesL w p) : linesL w' y = [y] := by
  rcases line_of hy with ⟨rfl, _⟩ | ⟨g, hg, rfl⟩
  · rfl
  · rw [lines_grp, words_jn (brk_wd hg), lineG_brk (brk_ne w _ _ (Nat.le_refl _) g hg), brk_line h hg]; rfl
theorem line_joined {w : Nat} {p y : List Nat} (hy : y ∈ linesL w p) : joined y = y := by
  rcases line_of hy with ⟨rfl, _⟩ | ⟨g, hg, rfl⟩
  · rfl
  · show jn (wordsL (jn g)) = jn g
    rw [words_jn (brk_wd hg)]
theorem lines_words (w : Nat) (p : List Nat) : (linesL w p).flatMap wordsL = wordsL p := by
  rw [lines_grp]
  unfold lineG
  split
  · rename_i e
    rw [List.isEmpty_iff.mp e]; rfl
  · conv => rhs; rw [← brk_words w (wordsL p)]
    rw [List.flatMap_map]
    have key : ∀ gs : List (List (List Nat)), (∀ g ∈ gs, ∀ z ∈ g, Wd z) → gs.flatMap (fun g => wordsL (jn g)) = gs.flatten := by
      intro gs h
      induction gs with
      | nil => rfl
      | cons g gs ih =>
        rw [List.flatMap_cons, List.flatten_cons, ih fun x hx => h x (List.mem_cons_of_mem _ hx), words_jn (h g (List.mem_cons_self ..))]
    exact key _ fun g hg => brk_wd hg
theorem linesL_ne (w : Nat) (p : List Nat) : linesL w p ≠ [] := by
  rw [lines_grp]
  intro e
  have := lineG_pos w (wordsL p)
  rw [e] at this; cases this
theorem wrapL_ne (w : Nat) (x : List Nat) : wrapL w x ≠ [] := by
  unfold wrapL
  obtain ⟨p, ps, e⟩ := cut_ne 10 x
  rw [e, List.flatMap_cons]
  intro h
  exact linesL_ne w p (List.append_eq_nil_iff.mp h).1
theorem wrap_append (w : Nat) (x y : List Nat) : wrapL w (x ++ 10 :: y) = wrapL w x ++ wrapL w y := by
  unfold wrapL
  rw [cut_append, List.flatMap_append]
def againL (w : Nat) (x : List Nat) : List Nat := TL.joinL [10] (wrapL w x)
theorem cut_again (w : Nat) (x : List Nat) : cut 10 (againL w x) = wrapL w x := cut_join 10 _ (wrapL_ne w x) fun p hp => line_no10 hp
theorem flatMap_self {α : Type} (f : α → List α) : ∀ l : List α, (∀ y ∈ l, f y = [y]) → l.flatMap f = l
  | [], _ => rfl
  | y :: l, h => by rw [List.flatMap_cons, h y (List.mem_cons_self ..), flatMap_self f l fun z hz => h z (List.mem_cons_of_mem _ hz)]; rfl
theorem wrap_again {w w' : Nat} (h : w ≤ w') (x : List Nat) : wrapL w' (againL w x) = wrapL w x := by
  show (cut 10 (againL w x)).flatMap (linesL w') = _
  rw [cut_again]
  refine flatMap_self _ _ fun y hy => ?_
  obtain ⟨p, hp, hy⟩ := List.mem_flatMap.mp hy
  exact line_self h hy
theorem wish_again (w : Nat) (x : List Nat) : wishL (againL w x) = maxN ((wrapL w x).map List.length) := by
  unfold wishL
  rw [cut_again]
  congr 1
  refine List.map_congr_left fun y hy => ?_
  obtain ⟨p, hp, hy⟩ := List.mem_flatMap.mp hy
  rw [line_joined hy]
theorem wrap_words (w : Nat) (x : List Nat) : (wrapL w x).flatMap wordsL = (cut 10 x).flatMap wordsL := by
  unfold wrapL
  rw [List.flatMap_assoc]
  congr 1
  exact funext fun p => lines_words w p
theorem long_again (w : Nat) (x : List Nat) : longL (againL w x) = longL x := by
  unfold longL
  rw [cut_again, wrap_words]
/-! more blanks -/
theorem wdsM_rep : ∀ (x : List Nat) (cur : List (List Nat)) (wd : List Nat), wdsM cur wd (rep2 x ++ [32, 10]) = wdsM cur wd (x ++ [10])
  | [], cur, wd => by
    show wdsM cur wd [32, 10] = wdsM cur wd [10]
    rw [wdsM_blank, wdsM_feed, wdsM_feed]; rfl
  | c :: t, cur, wd => by
    by_cases h : c = 32
    · subst h
      show wdsM cur wd (32 :: 32 :: (rep2 t ++ [32, 10])) = wdsM cur wd (32 :: (t ++ [10]))
      rw [wdsM_blank, wdsM_blank, wdsM_blank]
      exact wdsM_rep t _ _
    · show wdsM cur wd ((if c = 32 then 32 :: 32 :: rep2 t else c :: rep2 t) ++ [32, 10]) = wdsM cur wd (c :: (t ++ [10]))
      rw [if_neg h]
      show wdsM cur wd (c :: (rep2 t ++ [32, 10])) = _
      by_cases h10 : c = 10
      · subst h10
        rw [wdsM_feed, wdsM_feed, wdsM_rep t]
      · rw [wdsM_sign (by simp [h, h10]), wdsM_sign (by simp [h, h10])]
        exact wdsM_rep t _ _
theorem words_rep (x : List Nat) : (cut 10 (rep2 x ++ [32])).map wordsL = (cut 10 x).map wordsL := by
  have h1 := wdsM_all (rep2 x ++ [32])
  have h2 := wdsM_all x
  rw [List.append_assoc, show [32] ++ [10] = [32, 10] from rfl, wdsM_rep, h2] at h1
  exact (List.append_inj' h1 rfl).1.symm
theorem wrap_grp (w : Nat) (x : List Nat) : wrapL w x = ((cut 10 x).map wordsL).flatMap (lineG w) := by
  rw [List.flatMap_map]
  unfold wrapL
  congr 1
  exact funext fun p => lines_grp w p
theorem wrap_rep (w : Nat) (x : List Nat) : wrapL w (rep2 x ++ [32]) = wrapL w x := by
  rw [wrap_grp, wrap_grp, words_rep]
/-! sizes -/
theorem brk_sum : ∀ gs : List (List (List Nat)), ((gs.map jn).map List.length).sum ≤ lsum gs.flatten + gs.flatten.length
  | [] => Nat.le_refl _
  | g :: gs => by
    rw [List.map_cons, List.map_cons, List.sum_cons, List.flatten_cons, lsum_append, List.length_append, jn_len]
    have := brk_sum gs
    omega
theorem lines_sum (w : Nat) (p : List Nat) : ((linesL w p).map List.length).sum ≤ 2 * p.length := by
  rw [lines_grp]
  unfold lineG
  split
  · exact Nat.zero_le _
  · have h := brk_sum (brk w (wordsL p))
    rw [brk_words] at h
    have h1 := words_sum p
    have h2 := words_count p
    have h1 : lsum (wordsL p) ≤ p.length := h1
    omega
theorem wrap_sum (w : Nat) (x : List Nat) : ((wrapL w x).map List.length).sum ≤ 2 * x.length := by
  have key : ∀ l : List (List Nat), ((l.flatMap (linesL w)).map List.length).sum ≤ 2 * (l.map List.length).sum := by
    intro l
    induction l with
    | nil => exact Nat.le_refl _
    | cons p l ih =>
      rw [List.flatMap_cons, List.map_append, List.sum_append, List.map_cons, List.sum_cons]
      have := lines_sum w p
      omega
  have h1 := key (cut 10 x)
  have h2 := cut_sum 10 x
  unfold wrapL
  omega
theorem again_len (w : Nat) (x : List Nat) : (againL w x).length ≤ 4 * x.length + 1 := by
  unfold againL
  rw [joinL_len]
  have h1 := wrap_sum w x
  have h2 := wrapL_len w x
  omega
end My

/-! ### how many lines at which width -/
namespace My
open PySem L2
theorem flat_le {α β : Type} (f g : α → List β) : ∀ l : List α, (∀ y ∈ l, (f y).length ≤ (g y).length) → (l.flatMap f).length ≤ (l.flatMap g).length
  | [], _ => Nat.le_refl _
  | y :: l, h => by
    rw [List.flatMap_cons, List.flatMap_cons, List.length_append, List.length_append]
    have := h y (List.mem_cons_self ..)
    have := flat_le f g l fun z hz => h z (List.mem_cons_of_mem _ hz)
    omega
theorem flat_one {α β : Type} (f : α → List β) : ∀ l : List α, (∀ y ∈ l, (f y).length = 1) → (l.flatMap f).length = l.length
  | [], _ => rfl
  | y :: l, h => by
    rw [List.flatMap_cons, List.length_append, h y (List.mem_cons_self ..), flat_one f l fun z hz => h z (List.mem_cons_of_mem _ hz), List.length_cons]; omega
theorem flat_pos {α β : Type} (f : α → List β) : ∀ l : List α, (∀ y ∈ l, 1 ≤ (f y).length) → l.length ≤ (l.flatMap f).length
  | [], _ => Nat.le_refl _
  | y :: l, h => by
    rw [List.flatMap_cons, List.length_append, List.length_cons]
    have := h y (List.mem_cons_self ..)
    have := flat_pos f l fun z hz => h z (List.mem_cons_of_mem _ hz)
    omega
theorem flat_two {α β : Type} (f : α → List β) : ∀ l : List α, (∀ y ∈ l, 1 ≤ (f y).length) → (∃ y ∈ l, 2 ≤ (f y).length) → l.length < (l.flatMap f).length
  | [], _, ⟨_, h, _⟩ => by cases h
  | y :: l, h, ⟨z, hz, h2⟩ => by
    rw [List.flatMap_cons, List.length_append, List.length_cons]
    have h1 := h y (List.mem_cons_self ..)
    have hl := flat_pos f l fun z hz => h z (List.mem_cons_of_mem _ hz)
    rcases List.mem_cons.mp hz with rfl | hz
    · omega
    · have := flat_two f l (fun z hz => h z (List.mem_cons_of_mem _ hz)) ⟨z, hz, h2⟩
      omega
theorem linesL_pos (w : Nat) (p : List Nat) : 1 ≤ (linesL w p).length := List.length_pos_iff.mpr (linesL_ne w p)
theorem wrap_fewer {w w' : Nat} (h : w ≤ w') (x : List Nat) : (wrapL w' x).length ≤ (wrapL w x).length := by
  refine flat_le _ _ _ fun p _ => ?_
  rw [lines_grp, lines_grp]
  unfold lineG
  split
  · exact Nat.le_refl _
  · rw [List.length_map, List.length_map]; exact brk_fewer h _
theorem wrap_parts (w : Nat) (x : List Nat) : (cut 10 x).length ≤ (wrapL w x).length := flat_pos _ _ fun p _ => linesL_pos w p
theorem brk_one {w : Nat} {ws : List (List Nat)} (h : ws ≠ []) (hw : (jn ws).length ≤ w) : brk w ws = [ws] := by
  have e : fitN w ws = ws.length := Nat.le_antisymm (fitN_le _ _) (fit_ge (Nat.le_refl _) (by rw [List.take_length]; exact hw))
  rw [brk_cons w h, e, List.take_length, List.drop_length]; rfl
theorem wrap_wish {w : Nat} {x : List Nat} (h : wishL x ≤ w) : (wrapL w x).length = (cut 10 x).length := by
  refine flat_one _ _ fun p hp => ?_
  rw [lines_grp]
  have hj : (joined p).length ≤ w := Nat.le_trans (maxN_ge (List.mem_map.mpr ⟨p, hp, rfl⟩)) h
  have hj : (jn (wordsL p)).length ≤ w := hj
  by_cases e : wordsL p = []
  · rw [e]; rfl
  · rw [lineG_brk e, brk_one e hj]; rfl
theorem maxN_mem : ∀ {l : List Nat}, l ≠ [] → maxN l ∈ l
  | [a], _ => by show max a 0 ∈ [a]; rw [Nat.max_zero]; exact List.mem_singleton.mpr rfl
  | a :: b :: l, _ => by
    have ih := maxN_mem (l := b :: l) (by simp)
    show max a (maxN (b :: l)) ∈ a :: b :: l
    by_cases h : maxN (b :: l) ≤ a
    · rw [Nat.max_eq_left h]; exact List.mem_cons_self ..
    · rw [Nat.max_eq_right (by omega)]; exact List.mem_cons_of_mem _ ih
theorem word_long {x p y : List Nat} (hp : p ∈ cut 10 x) (hy : y ∈ wordsL p) : y.length ≤ longL x :=
  maxN_ge (List.mem_map.mpr ⟨y, List.mem_flatMap.mpr ⟨p, hp, hy⟩, rfl⟩)
theorem wrap_below {w : Nat} {x : List Nat} (h1 : longL x ≤ w) (h2 : w < wishL x) : (cut 10 x).length < (wrapL w x).length := by
  refine flat_two _ _ (fun p _ => linesL_pos w p) ?_
  have hn : (cut 10 x).map (fun p => (joined p).length) ≠ [] := by
    obtain ⟨p, ps, e⟩ := cut_ne 10 x
    rw [e]; simp
  obtain ⟨p, hp, ep⟩ := List.mem_map.mp (maxN_mem hn)
  have ep : (jn (wordsL p)).length = wishL x := ep
  refine ⟨p, hp, ?_⟩
  have hw : wordsL p ≠ [] := by
    intro e
    rw [e] at ep
    have : (jn []).length = 0 := rfl
    omega
  rw [lines_grp, lineG_brk hw, List.length_map]
  have hb := brk_nonempty (w := w) hw
  by_cases h3 : 2 ≤ (brk w (wordsL p)).length
  · exact h3
  · exfalso
    have hl := List.length_pos_iff.mpr hb
    obtain ⟨g, eg⟩ := List.length_eq_one_iff.mp (show (brk w (wordsL p)).length = 1 by omega)
    have ef := brk_words w (wordsL p)
    rw [eg, List.flatten_cons, List.flatten_nil, List.append_nil] at ef
    rcases brk_fits w _ _ (Nat.le_refl _) g (by rw [eg]; exact List.mem_singleton.mpr rfl) with h | h
    · obtain ⟨y, ey⟩ := List.length_eq_one_iff.mp h
      have hy : y ∈ wordsL p := by rw [← ef, ey]; exact List.mem_singleton.mpr rfl
      have := word_long hp hy
      rw [← ef, ey] at ep
      have : (jn [y]).length = y.length := rfl
      omega
    · rw [ef] at h; omega
theorem jn_ge : ∀ {g : List (List Nat)} {y : List Nat}, y ∈ g → y.length ≤ (jn g).length := fun {g y} h => by
  have := mem_sum h
  rw [jn_len]
  unfold lsum; omega
/-- a line is longer than told just where a word is -/
theorem line_long (w : Nat) (x : List Nat) : maxN ((wrapL w x).map List.length) > w ↔ longL x > w := by
  refine ⟨fun h => ?_, fun h => ?_⟩
  · obtain ⟨y, hy, ey⟩ := List.mem_map.mp (maxN_mem (show (wrapL w x).map List.length ≠ [] by intro e; exact wrapL_ne w x (List.map_eq_nil_iff.mp e)))
    obtain ⟨p, hp, hy⟩ := List.mem_flatMap.mp hy
    rcases line_of hy with ⟨rfl, _⟩ | ⟨g, hg, rfl⟩
    · have : ([] : List Nat).length = 0 := rfl
      omega
    · rcases brk_fits w _ _ (Nat.le_refl _) g hg with h1 | h1
      · obtain ⟨z, ez⟩ := List.length_eq_one_iff.mp h1
        have hz : z ∈ wordsL p := brk_mem hg (by rw [ez]; exact List.mem_singleton.mpr rfl)
        have := word_long hp hz
        rw [ez] at ey
        have : (jn [z]).length = z.length := rfl
        omega
      · omega
  · have hn : ((cut 10 x).flatMap wordsL).map List.length ≠ [] := by
      intro e
      have : longL x = 0 := by unfold longL; rw [e]; rfl
      omega
    obtain ⟨y, hy, ey⟩ := List.mem_map.mp (maxN_mem hn)
    have ey : y.length = longL x := ey
    obtain ⟨p, hp, hy⟩ := List.mem_flatMap.mp hy
    have hw : wordsL p ≠ [] := fun e => by rw [e] at hy; cases hy
    rw [← brk_words w (wordsL p)] at hy
    obtain ⟨g, hg, hyg⟩ := List.mem_flatten.mp hy
    have hl : jn g ∈ wrapL w x := List.mem_flatMap.mpr ⟨p, hp, by rw [lines_grp, lineG_brk hw]; exact List.mem_map.mpr ⟨g, hg, rfl⟩⟩
    have := maxN_ge (List.mem_map.mpr ⟨_, hl, rfl⟩ : (jn g).length ∈ (wrapL w x).map List.length)
    have := jn_ge hyg
    omega
/-- a line's words -/
theorem line_cut {w : Nat} {x y : List Nat} (hy : y ∈ wrapL w x) (h : y ≠ []) : cut 32 y = wordsL y := by
  obtain ⟨p, hp, hy⟩ := List.mem_flatMap.mp hy
  rcases line_of hy with ⟨rfl, _⟩ | ⟨g, hg, rfl⟩
  · exact absurd rfl h
  · rw [words_jn (brk_wd hg), split_jn (brk_ne w _ _ (Nat.le_refl _) g hg) (brk_wd hg)]
end My

namespace My
open PySem PySem.Spec PyProof.Rows L2
def top (i : Nat) : Stmt := PySem.Challenge.pw_nestlaid_k14_whole_wider_and_wider.main.body.getD i (.Pass ⟨0, 0, 0, 0⟩)
abbrev s_NoText_init : Stmt := inClass (top 3) 0
abbrev N_NoText_init : List Str := ["self", "why", "line"]
theorem sc_NoText_init : FnScope N_NoText_init ["self", "why", "line"] (defScope s_NoText_init) := ⟨rfl, rfl, rfl, by decide +kernel, rfl, by decide +kernel, by decide +kernel⟩
abbrev s_is_whole : Stmt := top 5
abbrev N_is_whole : List Str := ["thing"]
theorem sc_is_whole : FnScope N_is_whole ["thing"] (defScope s_is_whole) := ⟨rfl, rfl, rfl, by decide +kernel, rfl, by decide +kernel, by decide +kernel⟩
abbrev s_is_from_nought : Stmt := top 6
abbrev N_is_from_nought : List Str := ["thing"]
theorem sc_is_from_nought : FnScope N_is_from_nought ["thing"] (defScope s_is_from_nought) := ⟨rfl, rfl, rfl, by decide +kernel, rfl, by decide +kernel, by decide +kernel⟩
abbrev s_words_in : Stmt := top 8
abbrev N_words_in : List Str := ["part", "word"]
theorem sc_words_in : FnScope N_words_in ["part"] (defScope s_words_in) := ⟨rfl, rfl, rfl, by decide +kernel, rfl, by decide +kernel, by decide +kernel⟩
abbrev s_check_text : Stmt := top 9
abbrev N_check_text : List Str := ["text"]
theorem sc_check_text : FnScope N_check_text ["text"] (defScope s_check_text) := ⟨rfl, rfl, rfl, by decide +kernel, rfl, by decide +kernel, by decide +kernel⟩
abbrev s_lines_of : Stmt := top 10
abbrev N_lines_of : List Str := ["part", "wide", "found", "line", "word"]
theorem sc_lines_of : FnScope N_lines_of ["part", "wide"] (defScope s_lines_of) := ⟨rfl, rfl, rfl, by decide +kernel, rfl, by decide +kernel, by decide +kernel⟩
abbrev s_wrapped_in : Stmt := top 11
abbrev N_wrapped_in : List Str := ["text", "wide", "part", "line"]
theorem sc_wrapped_in : FnScope N_wrapped_in ["text", "wide"] (defScope s_wrapped_in) := ⟨rfl, rfl, rfl, by decide +kernel, rfl, by decide +kernel, by decide +kernel⟩
abbrev s_wrapped : Stmt := top 12
abbrev N_wrapped : List Str := ["text", "wide"]
theorem sc_wrapped : FnScope N_wrapped ["text", "wide"] (defScope s_wrapped) := ⟨rfl, rfl, rfl, by decide +kernel, rfl, by decide +kernel, by decide +kernel⟩
abbrev s_w_cell_at : Stmt := top 14
abbrev N_w_cell_at : List Str := ["_law_script", "_law_k"]
theorem sc_w_cell_at : FnScope N_w_cell_at ["_law_script", "_law_k"] (defScope s_w_cell_at) := ⟨rfl, rfl, rfl, by decide +kernel, rfl, by decide +kernel, by decide +kernel⟩
abbrev s_w_mixed : Stmt := top 15
abbrev N_w_mixed : List Str := ["_law_cell", "_law_k", "_law_low"]
theorem sc_w_mixed : FnScope N_w_mixed ["_law_cell", "_law_k"] (defScope s_w_mixed) := ⟨rfl, rfl, rfl, by decide +kernel, rfl, by decide +kernel, by decide +kernel⟩
abbrev s_w_source : Stmt := top 16
abbrev N_w_source : List Str := ["_law_cell"]
theorem sc_w_source : FnScope N_w_source ["_law_cell"] (defScope s_w_source) := ⟨rfl, rfl, rfl, by decide +kernel, rfl, by decide +kernel, by decide +kernel⟩
abbrev s_w_next : Stmt := top 17
abbrev N_w_next : List Str := ["_law_source_here", "_law_many", "_law_found"]
theorem sc_w_next : FnScope N_w_next ["_law_source_here", "_law_many"] (defScope s_w_next) := ⟨rfl, rfl, rfl, by decide +kernel, rfl, by decide +kernel, by decide +kernel⟩
abbrev s_w_word : Stmt := top 18
abbrev N_w_word : List Str := ["_law_source_here", "_law_some", "_law_many", "_law_first", "_law_step", "_law_k"]
theorem sc_w_word : FnScope N_w_word ["_law_source_here"] (defScope s_w_word) := ⟨rfl, rfl, rfl, by decide +kernel, rfl, by decide +kernel, by decide +kernel⟩
abbrev s_w_text : Stmt := top 19
abbrev N_w_text : List Str := ["_law_source_here", "_law_most", "_law_found", "_law_k", "_law_way"]
theorem sc_w_text : FnScope N_w_text ["_law_source_here", "_law_most"] (defScope s_w_text) := ⟨rfl, rfl, rfl, by decide +kernel, rfl, by decide +kernel, by decide +kernel⟩
abbrev s_w_words : Stmt := top 20
abbrev N_w_words : List Str := ["_law_text_here", "_law_found", "_law_word_here", "_law_sign"]
theorem sc_w_words : FnScope N_w_words ["_law_text_here"] (defScope s_w_words) := ⟨rfl, rfl, rfl, by decide +kernel, rfl, by decide +kernel, by decide +kernel⟩
abbrev s_w_lines_right : Stmt := top 21
abbrev N_w_lines_right : List Str := ["_law_lines", "_law_words_here", "_law_wide", "_law_long", "_law_some", "_law_line"]
theorem sc_w_lines_right : FnScope N_w_lines_right ["_law_lines", "_law_words_here", "_law_wide", "_law_long"] (defScope s_w_lines_right) := ⟨rfl, rfl, rfl, by decide +kernel, rfl, by decide +kernel, by decide +kernel⟩
abbrev s_law : Stmt := top 22
abbrev N_law : List Str := ["_law_script", "_law_cell", "_law_source_here", "_law_far", "_law_text_here", "_law_parts", "_law_every", "_law_words_here", "_law_long", "_law_wish", "_law_most", "_law_wide", "_law_lines", "_law_word_here"]
theorem sc_law : FnScope N_law ["_law_script"] (defScope s_law) := ⟨rfl, rfl, rfl, by decide +kernel, rfl, by decide +kernel, by decide +kernel⟩
structure Tx (K : PySem.W.Frag) (mg : Str → Option Value) where
  d_is_whole : Df K mg "is_whole" s_is_whole ["thing"]
  d_is_from_nought : Df K mg "is_from_nought" s_is_from_nought ["thing"]
  d_words_in : Df K mg "words_in" s_words_in ["part"]
  d_check_text : Df K mg "check_text" s_check_text ["text"]
  d_lines_of : Df K mg "lines_of" s_lines_of ["part", "wide"]
  d_wrapped_in : Df K mg "wrapped_in" s_wrapped_in ["text", "wide"]
  d_wrapped : Df K mg "wrapped" s_wrapped ["text", "wide"]
  d_w_cell_at : Df K mg "_law_cell_at" s_w_cell_at ["_law_script", "_law_k"]
  d_w_mixed : Df K mg "_law_mixed" s_w_mixed ["_law_cell", "_law_k"]
  d_w_source : Df K mg "_law_source" s_w_source ["_law_cell"]
  d_w_next : Df K mg "_law_next" s_w_next ["_law_source_here", "_law_many"]
  d_w_word : Df K mg "_law_word" s_w_word ["_law_source_here"]
  d_w_text : Df K mg "_law_text" s_w_text ["_law_source_here", "_law_most"]
  d_w_words : Df K mg "_law_words" s_w_words ["_law_text_here"]
  d_w_lines_right : Df K mg "_law_lines_right" s_w_lines_right ["_law_lines", "_law_words_here", "_law_wide", "_law_long"]
  d_law : Df K mg "law" s_law ["_law_script"]
  b_bool : mg "bool" = none
  b_int : mg "int" = none
  b_isinstance : mg "isinstance" = none
  b_len : mg "len" = none
  b_list : mg "list" = none
  b_max : mg "max" = none
  b_min : mg "min" = none
  b_range : mg "range" = none
  b_str : mg "str" = none
end My
namespace My
open PySem L2
theorem atK {xs : List V} {k : Nat} {v : V} (h : xs[k]? = some v) : atI xs (k : Int) = some v := by
  unfold atI
  rw [ixN_nat (List.getElem?_eq_some_iff.mp h).1]
  exact h
/-- a draw off the first ones of a list -/
theorem pickP {P : V → Prop} {xs : List V} (ys : List V) {n : Int} (h : ∀ x ∈ xs, P x) (h0 : 0 ≤ n) (h1 : n < xs.length) : ∃ x, atI (xs ++ ys) n = some x ∧ P x := by
  obtain ⟨k, rfl⟩ := Int.eq_ofNat_of_zero_le h0
  have hk : k < xs.length := by omega
  exact ⟨xs[k], atK (by rw [List.getElem?_append_left hk]; exact List.getElem?_eq_getElem hk), h _ (List.getElem_mem hk)⟩
theorem allC {P : V → Prop} {x : V} {xs : List V} (h : P x) (t : ∀ y ∈ xs, P y) : ∀ y ∈ x :: xs, P y := List.forall_mem_cons.mpr ⟨h, t⟩
theorem allN {P : V → Prop} : ∀ y ∈ ([] : List V), P y := fun _ h => by cases h
theorem pickA {P : V → Prop} {xs : List V} {n : Int} (h : ∀ x ∈ xs, P x) (h0 : 0 ≤ n) (h1 : n < xs.length) : ∃ x, atI xs n = some x ∧ P x := by
  have := pickP [] h h0 h1
  rwa [List.append_nil] at this
end My

/-! ### slices by plain numbers -/
namespace My
open PySem L2
theorem cutV_take (xs : List V) (j : Nat) : cutV xs none (some (j : Int)) = xs.take j := by
  unfold cutV
  rw [HT.sIx_none, HT.sIx_nat, List.drop_zero, Nat.sub_zero]
  by_cases h : j ≤ xs.length
  · rw [Nat.min_eq_left h]
  · rw [Nat.min_eq_right (by omega), List.take_of_length_le (Nat.le_refl _), List.take_of_length_le (by omega)]
theorem cutV_drop (xs : List V) (j : Nat) : cutV xs (some (j : Int)) none = xs.drop j := by
  unfold cutV
  rw [HT.sIx_none, HT.sIx_nat]
  by_cases h : j ≤ xs.length
  · rw [Nat.min_eq_left h, List.take_of_length_le (by rw [List.length_drop]; omega)]
  · rw [Nat.min_eq_right (by omega), List.drop_of_length_le (Nat.le_refl _), List.drop_of_length_le (by omega), List.take_nil]
theorem cutV_mid (xs : List V) (i j : Nat) (h : i ≤ j) : cutV xs (some (i : Int)) (some (j : Int)) = (xs.take j).drop i := by
  unfold cutV
  rw [HT.sIx_nat, HT.sIx_nat]
  by_cases h1 : i ≤ xs.length
  · by_cases h2 : j ≤ xs.length
    · rw [Nat.min_eq_left h1, Nat.min_eq_left h2, List.drop_take]
    · rw [Nat.min_eq_left h1, Nat.min_eq_right (by omega), List.take_of_length_le (by rw [List.length_drop]; omega), List.take_of_length_le (by omega)]
  · rw [Nat.min_eq_right (show xs.length ≤ i by omega), List.drop_of_length_le (Nat.le_refl _), List.take_nil, List.drop_of_length_le (by rw [List.length_take]; omega)]
theorem cutV_init (xs : List V) : cutV xs none (some (-1)) = xs.take (xs.length - 1) := by
  unfold cutV
  have e : HT.sIx xs.length xs.length (some (-1)) = xs.length - 1 := by
    show (if (-1 : Int) < 0 then ((-1 : Int) + (xs.length : Int)).toNat else min (-1 : Int).toNat xs.length) = xs.length - 1
    rw [if_pos (by decide)]; omega
  rw [HT.sIx_none, e, List.drop_zero, Nat.sub_zero]
end My

/-! ### texts: signs, pieces -/
namespace My
open PySem L2
theorem at_some {α : Type} {xs : List α} {i : Int} (h0 : 0 ≤ i) (h1 : i < xs.length) : ∃ c, atI xs i = some c ∧ c ∈ xs := by
  obtain ⟨k, rfl⟩ := Int.eq_ofNat_of_zero_le h0
  have hk : k < xs.length := by omega
  refine ⟨xs[k], ?_, List.getElem_mem hk⟩
  unfold atI
  rw [ixN_nat hk]
  exact List.getElem?_eq_getElem hk
theorem strOk_iff {x : Str} : PyData.strOk x = true ↔ ∀ c ∈ x.cps.toList, c < 0x110000 := by
  unfold PyData.strOk
  rw [← Array.all_toList, List.all_eq_true]
  exact ⟨fun h c hc => of_decide_eq_true (h c hc), fun h c hc => decide_eq_true (h c hc)⟩
theorem strOk_one {c : Nat} (h : c < 0x110000) : PyData.strOk ⟨#[c]⟩ = true := strOk_iff.mpr fun d hd => by
  rw [List.mem_singleton.mp hd]; exact h
theorem strOk_append {x y : Str} (hx : PyData.strOk x = true) (hy : PyData.strOk y = true) : PyData.strOk (x ++ y) = true := strOk_iff.mpr fun c hc => by
  have : c ∈ (x.cps ++ y.cps).toList := hc
  rw [Array.toList_append] at this
  rcases List.mem_append.mp this with h | h
  · exact strOk_iff.mp hx c h
  · exact strOk_iff.mp hy c h
theorem strOk_cut {x : Str} {lo hi : Option Int} (hx : PyData.strOk x = true) : PyData.strOk (cutS x lo hi) = true := strOk_iff.mpr fun c hc => by
  have : c ∈ (x.cps.toList.drop (HT.sIx x.length 0 lo)).take (HT.sIx x.length x.length hi - HT.sIx x.length 0 lo) := hc
  exact strOk_iff.mp hx c (List.mem_of_mem_drop (List.mem_of_mem_take this))
theorem str_sign {x : Str} {i : Int} (h0 : 0 ≤ i) (h1 : i < x.length) (ok : PyData.strOk x = true) : ∃ c, atI x.cps.toList i = some c ∧ PyData.strOk ⟨#[c]⟩ = true := by
  obtain ⟨c, h, m⟩ := at_some (xs := x.cps.toList) h0 (by rw [Array.length_toList]; exact h1)
  exact ⟨c, h, strOk_one (strOk_iff.mp ok c m)⟩
end My

namespace My
open PySem PySem.Spec PyProof.Rows L2
section
variable {P : Program} {w : World} {K : PySem.W.Frag} {mg : Str → Option Value} {base : Heap}
def sp_is_whole : Sp := fun vs H Q _ => ∃ (x : V) (t : String), vs = [x] ∧ Ty7 H x t ∧ Q (.bl (isI x)) H
theorem ok_is_whole (T : Tx K mg) : FnOk P w K mg base CX0 1 T.d_is_whole.f T.d_is_whole.fd ["thing"] (sp_is_whole) := by
  refine T.d_is_whole.F.ok sc_is_whole (fun vs H Q E h => ?_) (fun cdv A outer s H vs Q E hr h => ?_)
  · obtain ⟨x, t, rfl, _⟩ := h
    rfl
  · obtain ⟨x, t, rfl, ht, k⟩ := h
    refine ⟨_, (pss_one (ps_ret (pe_and (pe_callB is_int (by rfl) T.b_isinstance (by decide +kernel) (pa_cons (pv 0) (pa_cons (pe_bltn (v := .ty "int") (by rfl) T.b_int (by decide +kernel) rfl) pa_nil))) (pe_one (pe_not (pe_callB is_bool (by rfl) T.b_isinstance (by decide +kernel) (pa_cons (pv 0) (pa_cons (pe_bltn (v := .ty "bool") (by rfl) T.b_bool (by decide +kernel) rfl) pa_nil)))))))), ?_⟩
    tm_at "rds"
    refine ite2 (fun e => ?_) (fun e => ?_)
    · tm_at "rds"
      rw [isI_bool e]
      exact k
    · rw [isI_no e]
      exact k
end
end My
namespace My
open PySem PySem.Spec PyProof.Rows L2
section
variable {P : Program} {w : World} {K : PySem.W.Frag} {mg : Str → Option Value} {base : Heap}
def sp_is_from_nought : Sp := fun vs H Q _ => ∃ (x : V) (t : String), vs = [x] ∧ Ty7 H x t ∧ Q (.bl (isN x)) H
theorem ok_is_from_nought (T : Tx K mg) : FnOk P w K mg base CX0 2 T.d_is_from_nought.f T.d_is_from_nought.fd ["thing"] (sp_is_from_nought) := by
  refine T.d_is_from_nought.F.ok sc_is_from_nought (fun vs H Q E h => ?_) (fun cdv A outer s H vs Q E hr h => ?_)
  · obtain ⟨x, t, rfl, _⟩ := h
    rfl
  · obtain ⟨x, t, rfl, ht, k⟩ := h
    refine ⟨_, (pss_one (ps_ret (pe_and (pe_call (ok_is_whole T) (hr.mono (by decide)) (by rfl) T.d_is_whole.g T.d_is_whole.F.kp T.d_is_whole.b .nil pass0 (pa_cons (pv 0) pa_nil)) (pe_one (pe_cmpR op_ge (pv 0) pe_int (nomark _)))))), ?_⟩
    refine ⟨_, rfl, x, t, rfl, ht, ?_⟩
    tm_at "rds"
    refine ite2 (fun e => ?_) (fun e => ?_)
    · obtain ⟨i, rfl⟩ := isI_of e
      tm_at "rds"
      exact k
    · have : false = isN x := by cases x <;> simp_all [isI, isN]
      rw [this]
      exact k
end
end My
namespace My
open PySem PySem.Spec PyProof.Rows L2
section
variable {P : Program} {w : World} {K : PySem.W.Frag} {mg : Str → Option Value} {base : Heap}
def sp_words_in : Sp := fun vs H Q _ => ∃ (l : List Nat), vs = [.str (sO l)] ∧ l.length ≤ 50000 ∧ New H (.lst ((wordsL l).map fun p => .str (sO p))) Q
theorem ok_words_in (T : Tx K mg) : FnOk P w K mg base CX0 1 T.d_words_in.f T.d_words_in.fd ["part"] (sp_words_in) := by
  refine T.d_words_in.F.ok sc_words_in (fun vs H Q E h => ?_) (fun cdv A outer s H vs Q E hr h => ?_)
  · obtain ⟨l, rfl, _⟩ := h
    rfl
  · obtain ⟨l, rfl, hl, k⟩ := h
    refine ⟨_, (pss_one (ps_ret (pe_lc (own := [("word", 1)]) (g := gName 1) (by rfl) sc_words_in.nd (pi_listK (K := K) rfl (pe_splitN (pv 0) pe_str)) (blkOk_by (own := [("word", 1)]) (N := N_words_in) (sc := defScope s_words_in) (by decide +kernel)) (fun _ _ _ _ _ => (pg_name (i := 1) sc_words_in.nd rfl (Or.inl rfl))) (fun _ _ _ _ _ => (pts_one (pt_cmpR op_ne (pv 1) pe_str (nomark _)))) (fun _ _ _ _ _ => (pv 1))))), ?_⟩
    tm_at "rzs"
    refine ⟨⟨_, rfl⟩, l, 32, rfl, by rw [blank_eq], by decide, by rw [sizeLine_eq]; omega, fun p1 H1 f1 s1 g1 => ?_⟩
    have hcl := cut_len 32 l
    refine ⟨p1, rfl, ⟨_, sqL g1⟩, fun D hD => lcLf (K := K) (fun p => V.str (sO p)) (fun p => V.str (sO p)) (fun p => !p.isEmpty) hD (sqL g1) (by omega) (fun i y H2 Kt Kf hy s2 kt kf => ?_) (fun H2 s2 g2 => ?_)⟩
    · tm_at "rzs"
      rw [empty_dec]
      cases e : y.isEmpty with
      | true =>
        refine iteF' rfl ?_
        exact kf (by rw [e]; rfl) _ (Same.refl _)
      | false =>
        refine iteT' rfl ?_
        tm_at "rzs"
        exact kt (by rw [e]; rfl) _ (Same.refl _)
    · exact k D H2 (s1.free hD) (s1.trans s2) g2
end
end My
namespace My
open PySem PySem.Spec PyProof.Rows L2
section
variable {P : Program} {w : World} {K : PySem.W.Frag} {mg : Str → Option Value} {base : Heap}
def sp_check_text : Sp := fun vs H Q _ => ∃ (l : Str), vs = [.str l] ∧ Q .non H
theorem ok_check_text (T : Tx K mg) : FnOk P w K mg base CX0 3 T.d_check_text.f T.d_check_text.fd ["text"] (sp_check_text) := by
  refine T.d_check_text.F.ok sc_check_text (fun vs H Q E h => ?_) (fun cdv A outer s H vs Q E hr h => ?_)
  · obtain ⟨l, rfl, _⟩ := h
    rfl
  · obtain ⟨l, rfl, k⟩ := h
    refine ⟨_, (pss_one (ps_if (pt_not (pt_val (pe_callB is_str (by rfl) T.b_isinstance (by decide +kernel) (pa_cons (pv 0) (pa_cons (pe_bltn (v := .ty "str") (by rfl) T.b_str (by decide +kernel) rfl) pa_nil)))))
      (pss_one ps_never)
      pss_nil)), ?_⟩
    tm_at "rzs"
    exact k
end
end My
namespace My
open PySem PySem.Spec PyProof.Rows L2
section
variable {P : Program} {w : World} {K : PySem.W.Frag} {mg : Str → Option Value} {base : Heap}
def sp_lines_of : Sp := fun vs H Q _ => ∃ (l : List Nat) (w : Nat), vs = [.str (sO l), .int (w : Int)] ∧ l.length ≤ 50000 ∧ New H (.lst ((linesL w l).map fun p => .str (sO p))) Q
theorem ok_lines_of (T : Tx K mg) : FnOk P w K mg base CX0 2 T.d_lines_of.f T.d_lines_of.fd ["part", "wide"] (sp_lines_of) := by
  refine T.d_lines_of.F.ok sc_lines_of (fun vs H Q E h => ?_) (fun cdv A outer s H vs Q E hr h => ?_)
  · obtain ⟨l, w, rfl, _⟩ := h
    rfl
  · obtain ⟨l, w, rfl, hl, k⟩ := h
    refine ⟨_, (pss_cons (ps_set (i := 2) sc_lines_of.nd rfl (Or.inl rfl) (pe_lstA pa_nil))
      (pss_cons (ps_set (i := 3) sc_lines_of.nd rfl (Or.inl rfl) pe_str)
      (pss_cons (ps_for PassesOwn.never (by rfl) (pi_listK (K := K) rfl (pe_call (ok_words_in T) (hr.mono (by decide)) (by rfl) T.d_words_in.g T.d_words_in.F.kp T.d_words_in.b .nil pass0 (pa_cons (pv 0) pa_nil))) (pg_name (i := 4) sc_lines_of.nd rfl (Or.inl rfl))
      (pss_one (ps_if (PW.pt (pw_and (pt_cmpR op_ne (pv 3) pe_str (nomark _)) (pw_and1 (pt_cmpR op_le (pe_op op_add (pe_op op_add (pe_callB (call_lenK (K := K) rfl) (by rfl) T.b_len (by decide +kernel) (pa_cons (pv 3) pa_nil)) pe_int) (pe_callB (call_lenK (K := K) rfl) (by rfl) T.b_len (by decide +kernel) (pa_cons (pv 4) pa_nil))) (pv 1) (nomark _)))))
      (pss_one (ps_set (i := 3) sc_lines_of.nd rfl (Or.inl rfl) (pe_op op_add_str (pe_op op_add_str (pv 3) pe_str) (pv 4))))
      (pss_cons (ps_if (pt_cmpR op_ne (pv 3) pe_str (nomark _))
      (pss_one (ps_expr (pe_bm PySem.F.plainAttrs_list PySem.F.slot_list_append PySem.F.type_list_append mt_appendA (pv 2) (pa_cons (pv 3) pa_nil))))
      pss_nil)
      (pss_one (ps_set (i := 3) sc_lines_of.nd rfl (Or.inl rfl) (pv 4)))))))
      (pss_one (ps_ret (pe_op (op_catK (K := K) rfl) (pv 2) (pe_lstA (pa_cons (pv 3) pa_nil)))))))), ?_⟩
    tm_at "rzs"
    intro p1 H1 f1 s1 g1
    tm_at "rzs"
    intro pw H2 f2 s2 g2
    have n12 : p1 ≠ pw := ne_of_none g1 f2
    have wsum : ((wordsL l).map List.length).sum + (wordsL l).length ≤ 100000 := by
      have h1 := words_sum l
      have h2 := words_count l
      omega
    refine ⟨_, rfl, ⟨_, sqL g2⟩, ?_⟩
    refine for_list (K := K) (a := pw) (xs := (wordsL l).map fun p => V.str (sO p)) (fun i σ H' => ∃ (acc : List (List Nat)) (line : List Nat) (v4 : Option V), σ = [some (.str (sO l)), some (.int (w : Int)), some (.ref p1), some (.str (sO line)), v4] ∧ Same H H' ∧ H' pw = some (.lst ((wordsL l).map fun p => V.str (sO p))) ∧ H' p1 = some (.lst (acc.map fun p => V.str (sO p))) ∧ acc.length ≤ i ∧ line.length + (((wordsL l).drop i).map List.length).sum + ((wordsL l).drop i).length ≤ 100000 ∧ acc ++ lnsM w ((wordsL l).drop i) line = linesL w l)
      ⟨[], [], _, by rw [← empty_eq]; rfl, s1.trans s2, g2, s2 _ _ g1, Nat.zero_le _, by rw [List.drop_zero, List.length_nil, Nat.zero_add]; exact wsum, rfl⟩ (fun i σ H' _ ⟨_, _, _, _, _, g, _⟩ => sqL g) ?_ ?_
    · rintro i x σ H3 hx ⟨acc, line, v4, rfl, s3, gw, gf, la, ll, hm⟩
      obtain ⟨y, hy, rfl⟩ := of_map hx
      have hi := (List.getElem?_eq_some_iff.mp hy).1
      have hil : i < 100000 := by have := words_count l; omega
      have hd : (wordsL l).drop i = y :: (wordsL l).drop (i + 1) := List.drop_eq_getElem_cons hi |>.trans (by rw [(List.getElem?_eq_some_iff.mp hy).2])
      rw [hd] at hm ll
      rw [List.map_cons, List.sum_cons, List.length_cons] at ll
      have hm : acc ++ (if line.isEmpty = true then lnsM w ((wordsL l).drop (i + 1)) y else if line.length + 1 + y.length ≤ w then lnsM w ((wordsL l).drop (i + 1)) (line ++ 32 :: y) else line :: lnsM w ((wordsL l).drop (i + 1)) y) = linesL w l := hm
      have zl : line.length ≤ sizeLine := by rw [sizeLine_eq]; omega
      have zy : y.length ≤ sizeLine := by rw [sizeLine_eq]; omega
      dsimp only [gName]
      cases e : line.isEmpty with
      | true =>
        rw [if_pos e] at hm
        tm_at "rds"
        rw [empty_dec, e]
        refine iteF' rfl ?_
        tm_at "rds"
        rw [empty_dec, e]
        refine iteF' rfl ?_
        tm_at "rzs"
        exact ⟨acc, y, _, rfl, s3, gw, gf, by omega, by omega, hm⟩
      | false =>
        rw [if_neg (by rw [e]; decide)] at hm
        tm_at "rds"
        rw [empty_dec, e]
        refine iteT' rfl ?_
        tm_at "rds"
        refine ⟨_, line.length, rfl, ⟨by show line.toArray.size ≤ sizeLine; rw [List.size_toArray]; exact zl, by show line.length = line.toArray.size; rw [List.size_toArray]⟩, ?_⟩
        tm_at "rds"
        refine ⟨_, y.length, rfl, ⟨by show y.toArray.size ≤ sizeLine; rw [List.size_toArray]; exact zy, by show y.length = y.toArray.size; rw [List.size_toArray]⟩, ?_⟩
        tm_at "rds"
        by_cases ef : line.length + 1 + y.length ≤ w
        · rw [if_pos ef] at hm
          refine iteT' (decide_eq_true (by omega)) ?_
          tm_at "rds"
          refine ⟨by rw [blank_eq, show (⟨#[32]⟩ : Str) = sO [32] from rfl, sO_len, sO_len, sizeLine_eq]; show line.length + 1 ≤ _; omega, ?_⟩
          rw [blank_eq, show (⟨#[32]⟩ : Str) = sO [32] from rfl, sO_append]
          tm_at "rds"
          refine ⟨by rw [sO_len, sO_len, List.length_append, sizeLine_eq]; show line.length + 1 + y.length ≤ _; omega, ?_⟩
          rw [sO_append]
          exact ⟨acc, line ++ 32 :: y, _, by rw [List.append_assoc]; rfl, s3, gw, gf, by omega, by rw [List.length_append, List.length_cons]; omega, hm⟩
        · rw [if_neg ef] at hm
          refine iteF' (decide_eq_false (by omega)) ?_
          tm_at "rds"
          rw [empty_dec, e]
          refine iteT' rfl ?_
          tm_at "rzs"
          refine ⟨_, _, _, rfl, rfl, gf, by rw [List.length_map, sizeLine_eq]; omega, fun H4 b4 g4 => ?_⟩
          tm_at "rzs"
          exact ⟨acc ++ [line], y, _, rfl, Same.mut' s3 b4 f1, b4 _ _ n12.symm gw, by rw [g4, List.map_append]; rfl, by rw [List.length_append]; exact Nat.succ_le_succ la, by omega, by rw [List.append_assoc]; exact hm⟩
    · rintro σ H3 ⟨acc, line, v4, rfl, s3, gw, gf, la, ll, hm⟩
      rw [List.length_map, List.drop_length] at hm
      rw [List.length_map] at la
      tm_at "rzs"
      intro p4 H4 f4 s4 g4
      have hc := words_count l
      refine ⟨_, _, _, _, rfl, rfl, s4 _ _ gf, g4, by rw [List.length_map, sizeLine_eq]; show acc.length + 1 ≤ _; omega, fun p5 H5 f5 s5 g5 => ?_⟩
      refine k p5 H5 ((s3.trans s4).free f5) ((s3.trans s4).trans s5) ?_
      rw [g5, ← hm, List.map_append]; rfl
end
end My
namespace My
open PySem PySem.Spec PyProof.Rows L2
section
variable {P : Program} {w : World} {K : PySem.W.Frag} {mg : Str → Option Value} {base : Heap}
def sp_wrapped_in : Sp := fun vs H Q _ => ∃ (l : List Nat) (w : Nat), vs = [.str (sO l), .int (w : Int)] ∧ l.length ≤ 50000 ∧ New H (.lst ((wrapL w l).map fun p => .str (sO p))) Q
theorem ok_wrapped_in (T : Tx K mg) : FnOk P w K mg base CX0 3 T.d_wrapped_in.f T.d_wrapped_in.fd ["text", "wide"] (sp_wrapped_in) := by
  refine T.d_wrapped_in.F.ok sc_wrapped_in (fun vs H Q E h => ?_) (fun cdv A outer s H vs Q E hr h => ?_)
  · obtain ⟨l, w, rfl, _⟩ := h
    rfl
  · obtain ⟨l, w, rfl, hl, k⟩ := h
    refine ⟨_, (pss_one (ps_ret (pe_lc2 (own := [("part", 2), ("line", 3)]) (vs1 := [3]) (g := gName 2) (g1 := gName 3) (by rfl) sc_wrapped_in.nd (pi_listK (K := K) rfl (pe_splitN (pv 0) pe_str)) (blkOk_by (own := [("part", 2), ("line", 3)]) (N := N_wrapped_in) (sc := defScope s_wrapped_in) (by decide +kernel)) (by decide) (fun _ _ _ _ _ => (pg_name (i := 2) sc_wrapped_in.nd rfl (Or.inl rfl))) (fun _ _ _ _ _ => pts_nil) (fun _ _ _ _ _ => (pi_listK (K := K) rfl (pe_call (ok_lines_of T) (hr.mono (by decide)) (by rfl) T.d_lines_of.g T.d_lines_of.F.kp T.d_lines_of.b .nil pass0 (pa_cons (pv 2) (pa_cons (pv 1) pa_nil))))) (fun _ _ _ _ _ => (pg_name (i := 3) sc_wrapped_in.nd rfl (Or.inl rfl))) (fun _ _ _ _ _ => pts_nil) (fun _ _ _ _ _ => (pv 3))))), ?_⟩
    tm_at "rzs"
    refine ⟨⟨_, rfl⟩, l, 10, rfl, by rw [feed_eq], by decide, by rw [sizeLine_eq]; omega, fun p1 H1 f1 s1 g1 => ?_⟩
    have tot : ((cut 10 l).flatMap (linesL w)).length ≤ 100001 := by
      have := wrapL_len w l
      unfold wrapL at this; omega
    refine ⟨p1, rfl, ⟨_, sqL g1⟩, fun D hD => it_list (K := K) (xs := (cut 10 l).map fun p => V.str (sO p)) (fun i H' => Same H1 H' ∧ H' D = some (.lst ((((cut 10 l).take i).flatMap (linesL w)).map fun w => V.str (sO w)))) ⟨Same.upd0 hD, upd_same⟩ (fun i H' _ p => sqL (p.1 _ _ g1)) (fun i x H' hx p => ?_) (fun H' p => ?_)⟩
    · obtain ⟨sH, gD⟩ := p
      obtain ⟨y, hy, rfl⟩ := of_map hx
      have ly : y.length ≤ l.length := part_len (List.mem_of_getElem? hy)
      tm_at "rzs"
      intro pw H3 f3 s3 g3
      have nDw : pw ≠ D := (ne_of_none gD f3).symm
      have eT : ((cut 10 l).take (i + 1)).flatMap (linesL w) = ((cut 10 l).take i).flatMap (linesL w) ++ linesL w y := by
        rw [List.take_add_one, hy, List.flatMap_append]; simp
      have lT : (((cut 10 l).take (i + 1)).flatMap (linesL w)).length ≤ 100001 := Nat.le_trans (flat_take _ _ _) tot
      refine ⟨pw, rfl, ⟨_, sqL g3⟩, it_list (K := K) (xs := (linesL w y).map fun p => V.str (sO p)) (fun j H' => Same H1 H' ∧ H' pw = some (.lst ((linesL w y).map fun p => .str (sO p))) ∧ H' D = some (.lst ((((cut 10 l).take i).flatMap (linesL w) ++ (linesL w y).take j).map fun w => V.str (sO w)))) ⟨sH.trans s3, g3, by rw [List.take_zero, List.append_nil]; exact s3 _ _ gD⟩ (fun j H' _ p => sqL p.2.1) (fun j x H4 hx4 p4 => ?_) (fun H4 p4 => ?_)⟩
      · obtain ⟨s4, gw4, gD4⟩ := p4
        obtain ⟨w', hw, rfl⟩ := of_map hx4
        have lj : ((((cut 10 l).take i).flatMap (linesL w)) ++ (linesL w y).take j).length ≤ 100001 := by
          rw [eT, List.length_append] at lT
          rw [List.length_append, List.length_take]; omega
        tm_at "rzs"
        refine ⟨_, gD4, by rw [List.length_map, sizeLine_eq]; omega, Same.mut' s4 But.refl.upd hD, ?_, ?_⟩
        · rw [upd_ne nDw]; exact gw4
        · rw [upd_same, List.take_add_one, hw]
          simp only [Option.toList, List.append_assoc, List.map_append, List.map_cons, List.map_nil]
      · obtain ⟨s4, gw4, gD4⟩ := p4
        rw [List.length_map, List.take_length] at gD4
        exact ⟨s4, by rw [gD4, eT]⟩
    obtain ⟨s2, g2⟩ := p
    rw [List.length_map, List.take_length] at g2
    exact k D H' (s1.free hD) (s1.trans s2) g2
end
end My
namespace My
open PySem PySem.Spec PyProof.Rows L2
section
variable {P : Program} {w : World} {K : PySem.W.Frag} {mg : Str → Option Value} {base : Heap}
def sp_wrapped : Sp := fun vs H Q _ => ∃ (l : List Nat) (w : Nat), vs = [.str (sO l), .int (w : Int)] ∧ l.length ≤ 50000 ∧ New H (.lst ((wrapL w l).map fun p => .str (sO p))) Q
theorem ok_wrapped (T : Tx K mg) : FnOk P w K mg base CX0 4 T.d_wrapped.f T.d_wrapped.fd ["text", "wide"] (sp_wrapped) := by
  refine T.d_wrapped.F.ok sc_wrapped (fun vs H Q E h => ?_) (fun cdv A outer s H vs Q E hr h => ?_)
  · obtain ⟨l, w, rfl, _⟩ := h
    rfl
  · obtain ⟨l, w, rfl, hl, k⟩ := h
    refine ⟨_, (pss_cons (ps_expr (pe_call (ok_check_text T) (hr.mono (by decide)) (by rfl) T.d_check_text.g T.d_check_text.F.kp T.d_check_text.b .nil pass0 (pa_cons (pv 0) pa_nil)))
      (pss_cons (ps_if (pt_not (pt_val (pe_call (ok_is_from_nought T) (hr.mono (by decide)) (by rfl) T.d_is_from_nought.g T.d_is_from_nought.F.kp T.d_is_from_nought.b .nil pass0 (pa_cons (pv 1) pa_nil))))
      (pss_one ps_never)
      pss_nil)
      (pss_one (ps_ret (pe_call (ok_wrapped_in T) (hr.mono (by decide)) (by rfl) T.d_wrapped_in.g T.d_wrapped_in.F.kp T.d_wrapped_in.b .nil pass0 (pa_cons (pv 0) (pa_cons (pv 1) pa_nil))))))), ?_⟩
    tm_at "rzs"
    exact k
end
end My
namespace My
open PySem PySem.Spec PyProof.Rows L2
section
variable {P : Program} {w : World} {K : PySem.W.Frag} {mg : Str → Option Value} {base : Heap}
def sp_w_cell_at (K : PySem.W.Frag) : Sp := fun vs H Q _ => ∃ (a : Addr) (ns : List Int), vs = [.ref a, .int 0] ∧ SqL K H a (ns.map V.int) ∧ ns.length ≤ 63 ∧ Q (.int (ns.headD 0)) H
theorem ok_w_cell_at (T : Tx K mg) : FnOk P w K mg base CX0 1 T.d_w_cell_at.f T.d_w_cell_at.fd ["_law_script", "_law_k"] (sp_w_cell_at K) := by
  refine T.d_w_cell_at.F.ok sc_w_cell_at (fun vs H Q E h => ?_) (fun cdv A outer s H vs Q E hr h => ?_)
  · obtain ⟨x, t, rfl, _⟩ := h
    rfl
  · obtain ⟨a, ns, rfl, hS, hl, k⟩ := h
    refine ⟨_, (pss_cons (ps_if (pt_cmpR op_lt (pv 1) (pe_callB (call_lenK (K := K) rfl) (by rfl) T.b_len (by decide +kernel) (pa_cons (pv 0) pa_nil)) (nomark _))
      (pss_one (ps_ret (pe_ix (ix_seqK (K := K) rfl) (pv 0) (pv 1) (fun _ _ => rfl))))
      pss_nil)
      (pss_one (ps_ret pe_int))), ?_⟩
    refine ⟨_, rfl, _, rfl, _, _, rfl, .inl ⟨_, hS, rfl⟩, _, _, rfl, rfl, _, rfl, ite2 (fun e => ?_) (fun e => ?_)⟩
    · cases ns with
      | nil => simp at e
      | cons z r => exact ⟨_, rfl, _, rfl, .inl ⟨_, _, _, _, rfl, rfl, hS, atI_nat (j := 0) rfl, k⟩⟩
    · cases ns with
      | nil => exact k
      | cons z r => simp at e
end
end My
namespace My
open PySem PySem.Spec PyProof.Rows L2
section
variable {P : Program} {w : World} {K : PySem.W.Frag} {mg : Str → Option Value} {base : Heap}
def sp_w_mixed : Sp := fun vs H Q _ => ∃ (c k : Int), vs = [.int c, .int k] ∧ ∀ n : Int, 0 ≤ n → Q (.int n) H
theorem ok_w_mixed (T : Tx K mg) : FnOk P w K mg base CX0 1 T.d_w_mixed.f T.d_w_mixed.fd ["_law_cell", "_law_k"] (sp_w_mixed) := by
  refine T.d_w_mixed.F.ok sc_w_mixed (fun vs H Q E h => ?_) (fun cdv A outer s H vs Q E hr h => ?_)
  · obtain ⟨x, t, rfl, _⟩ := h
    rfl
  · obtain ⟨c, j, rfl, k⟩ := h
    refine ⟨_, (pss_cons (ps_set (i := 2) sc_w_mixed.nd rfl (Or.inl rfl) (pe_op op_add (pe_op op_mod (pv 0) pe_int) (pe_op op_mul (pe_op op_fdivW (pv 0) pe_int) pe_int)))
      (pss_cons (ps_set (i := 2) sc_w_mixed.nd rfl (Or.inl rfl) (pe_op op_mod (pe_op op_mul (pe_op op_add (pe_op op_add (pv 2) (pe_op op_mul pe_int (pv 1))) pe_int) pe_int) pe_int))
      (pss_cons (ps_set (i := 2) sc_w_mixed.nd rfl (Or.inl rfl) (pe_op op_mod (pe_op op_mul (pv 2) (pe_op op_add (pe_op op_add (pe_op op_fdivW (pv 2) pe_int) pe_int) (pv 1))) pe_int))
      (pss_one (ps_ret (pe_op op_mod (pe_op op_mul (pv 2) (pe_op op_add (pe_op op_fdivW (pv 2) pe_int) pe_int)) pe_int)))))), ?_⟩
    tm_at "rds"
    refine k _ ?_
    exact Int.emod_nonneg _ (by decide)
end
end My
namespace My
open PySem PySem.Spec PyProof.Rows L2
section
variable {P : Program} {w : World} {K : PySem.W.Frag} {mg : Str → Option Value} {base : Heap}
def sp_w_source : Sp := fun vs H Q _ => ∃ (c : Int), vs = [.int c] ∧ New H (src (c, c, 0)) Q
theorem ok_w_source (T : Tx K mg) : FnOk P w K mg base CX0 1 T.d_w_source.f T.d_w_source.fd ["_law_cell"] (sp_w_source) := by
  refine T.d_w_source.F.ok sc_w_source (fun vs H Q E h => ?_) (fun cdv A outer s H vs Q E hr h => ?_)
  · obtain ⟨x, rfl, _⟩ := h
    rfl
  · obtain ⟨c, rfl, k⟩ := h
    refine ⟨_, (pss_one (ps_ret (pe_lstA (pa_cons (pv 0) (pa_cons (pv 0) (pa_cons pe_int pa_nil)))))), ?_⟩
    refine ⟨_, rfl, _, rfl, (by show 3 ≤ sizeLine; decide), k⟩
end
end My
namespace My
open PySem PySem.Spec PyProof.Rows L2
section
variable {P : Program} {w : World} {K : PySem.W.Frag} {mg : Str → Option Value} {base : Heap}
def sp_w_next : Sp := fun vs H Q _ => ∃ (a : Addr) (m : Int), vs = [.ref a, .int m] ∧ Src H a ∧ 0 < m ∧ m < 2 ^ 64 ∧
  ∀ (n : Int) (H' : Hp), Dr a H H' → 0 ≤ n → n < m → Q (.int n) H'
theorem ok_w_next (T : Tx K mg) : FnOk P w K mg base CX0 2 T.d_w_next.f T.d_w_next.fd ["_law_source_here", "_law_many"] (sp_w_next) := by
  refine T.d_w_next.F.ok sc_w_next (fun vs H Q E h => ?_) (fun cdv A outer s H vs Q E hr h => ?_)
  · obtain ⟨a, m, rfl, _⟩ := h
    rfl
  · obtain ⟨a, m, rfl, ⟨⟨c0, c1, c2⟩, hs⟩, m0, m1, k⟩ := h
    have hL : SqL K H a [.int c0, .int c1, .int c2] := sqL hs
    refine ⟨_, (pss_cons (ps_if (pt_cmpR op_ge (pe_ix (ix_seqK (K := K) rfl) (pv 0) pe_int (fun _ _ => rfl)) (pe_op op_pow pe_int pe_int) (nomark _))
      (pss_cons (ps_set (i := 2) sc_w_next.nd rfl (Or.inl rfl) (pe_op op_mod (pe_ix (ix_seqK (K := K) rfl) (pv 0) pe_int (fun _ _ => rfl)) (pv 1)))
      (pss_cons (ps_asg (pe_op op_fdivW (pe_ix (ix_seqK (K := K) rfl) (pv 0) pe_int (fun _ _ => rfl)) (pv 1)) (pg_sub (pv 0) pe_int set_listA))
      (pss_one (ps_ret (pv 2)))))
      pss_nil)
      (pss_cons (ps_asg (pe_op op_add (pe_ix (ix_seqK (K := K) rfl) (pv 0) pe_int (fun _ _ => rfl)) pe_int) (pg_sub (pv 0) pe_int set_listA))
      (pss_one (ps_ret (pe_op op_mod (pe_call (ok_w_mixed T) (hr.mono (by decide)) (by rfl) T.d_w_mixed.g T.d_w_mixed.F.kp T.d_w_mixed.b .nil pass0 (pa_cons (pe_ix (ix_seqK (K := K) rfl) (pv 0) pe_int (fun _ _ => rfl)) (pa_cons (pe_ix (ix_seqK (K := K) rfl) (pv 0) pe_int (fun _ _ => rfl)) pa_nil))) (pv 1)))))), ?_⟩
    refine ⟨_, rfl, .inl ⟨_, _, _, _, rfl, rfl, hL, atI_nat (j := 0) rfl, _, _, rfl, rfl, ⟨by decide, by decide, by decide⟩, _, _, rfl, rfl, _, rfl, ite2 (fun e => ?_) (fun e => ?_)⟩⟩
    · refine ⟨_, rfl, .inl ⟨_, _, _, _, rfl, rfl, hL, atI_nat (j := 0) rfl, ?_⟩⟩
      tm_at "rds"
      refine .inl ⟨_, _, _, _, rfl, rfl, hL, atI_nat (j := 0) rfl, ?_⟩
      tm_at "rds"
      refine ⟨_, _, _, _, rfl, rfl, hs, rfl, fun H1 B1 g1 => ?_⟩
      tm_at "rds"
      refine k _ _ ⟨⟨(c0 / m, c1, c2), g1⟩, B1⟩ ?_ ?_
      · exact Int.emod_nonneg _ (by omega)
      · exact Int.emod_lt_of_pos _ m0
    · refine ⟨_, rfl, .inl ⟨_, _, _, _, rfl, rfl, hL, atI_nat (j := 2) rfl, ?_⟩⟩
      tm_at "rds"
      refine ⟨_, _, _, _, rfl, rfl, hs, rfl, fun H1 B1 g1 => ?_⟩
      refine ⟨_, rfl, .inl ⟨_, _, _, _, rfl, rfl, sqL g1, atI_nat (j := 1) rfl, ?_⟩⟩
      refine ⟨_, rfl, .inl ⟨_, _, _, _, rfl, rfl, sqL g1, atI_nat (j := 2) rfl, ?_⟩⟩
      refine ⟨_, _, rfl, fun n n0 => ?_⟩
      tm_at "rds"
      refine k _ _ ⟨⟨(c0, c1, c2 + 1), g1⟩, B1⟩ ?_ ?_
      · exact Int.emod_nonneg _ (by omega)
      · exact Int.emod_lt_of_pos _ m0
end
end My
namespace My
open PySem PySem.Spec PyProof.Rows L2
section
variable {P : Program} {w : World} {K : PySem.W.Frag} {mg : Str → Option Value} {base : Heap}
def sp_w_word : Sp := fun vs H Q _ => ∃ (s : Addr), vs = [.ref s] ∧ Src H s ∧ ∀ (l : List Nat) (H' : Hp), Dr s H H' → 1 ≤ l.length → l.length ≤ 40 → (∀ c ∈ l, 33 ≤ c ∧ c < 127) → Q (.str (sO l)) H'
theorem ok_w_word (T : Tx K mg) : FnOk P w K mg base CX0 3 T.d_w_word.f T.d_w_word.fd ["_law_source_here"] (sp_w_word) := by
  refine T.d_w_word.F.ok sc_w_word (fun vs H Q E h => ?_) (fun cdv A outer s H vs Q E hr h => ?_)
  · obtain ⟨s, rfl, _⟩ := h
    rfl
  · obtain ⟨s, rfl, hs, k⟩ := h
    refine ⟨_, (pss_cons (ps_set (i := 1) sc_w_word.nd rfl (Or.inr rfl) pe_str)
      (pss_cons (ps_set (i := 2) sc_w_word.nd rfl (Or.inl rfl) (pe_op op_add pe_int (pe_call (ok_w_next T) (hr.mono (by decide)) (by rfl) T.d_w_next.g T.d_w_next.F.kp T.d_w_next.b .nil pass0 (pa_cons (pv 0) (pa_cons (pe_ix (ix_listK (K := K) rfl) (pe_lstA (pa_cons pe_int (pa_cons pe_int (pa_cons pe_int (pa_cons pe_int pa_nil))))) (pe_call (ok_w_next T) (hr.mono (by decide)) (by rfl) T.d_w_next.g T.d_w_next.F.kp T.d_w_next.b .nil pass0 (pa_cons (pv 0) (pa_cons pe_int pa_nil))) (fun _ _ => rfl)) pa_nil)))))
      (pss_cons (ps_set (i := 3) sc_w_word.nd rfl (Or.inr rfl) (pe_call (ok_w_next T) (hr.mono (by decide)) (by rfl) T.d_w_next.g T.d_w_next.F.kp T.d_w_next.b .nil pass0 (pa_cons (pv 0) (pa_cons pe_int pa_nil))))
      (pss_cons (ps_set (i := 4) sc_w_word.nd rfl (Or.inr rfl) (pe_call (ok_w_next T) (hr.mono (by decide)) (by rfl) T.d_w_next.g T.d_w_next.F.kp T.d_w_next.b .nil pass0 (pa_cons (pv 0) (pa_cons pe_int pa_nil))))
      (pss_one (ps_ret (pe_joinN (K := K) rfl pe_str (pe_lc (own := [("_law_k", 5)]) (g := gName 5) (by rfl) sc_w_word.nd (pi_range1 (by rfl) T.b_range (pa_cons (pv 2) pa_nil)) (blkOk_by (own := [("_law_k", 5)]) (N := N_w_word) (sc := defScope s_w_word) (by decide +kernel)) (fun _ _ _ _ _ => (pg_name (i := 5) sc_w_word.nd rfl (Or.inl rfl))) (fun _ _ _ _ _ => pts_nil) (fun _ _ _ _ _ => (pe_ix ix_str (pv 1) (pe_op op_mod (pe_op op_add (pv 3) (pe_op op_mul (pv 4) (pv 5))) pe_int) (fun _ _ => rfl))))))))))), ?_⟩
    tm_at "rzs"
    intro p1 H1 f1 s1 g1
    have np1 : p1 ≠ s := hs.ne f1
    tm_at "rzs"
    intro n2 H2 d2 l2 u2
    obtain ⟨x, hx, far, rfl, far0, far1⟩ := pick4 (P := InR 1 41) l2 u2 ⟨2, rfl, by decide, by decide⟩ ⟨5, rfl, by decide, by decide⟩ ⟨9, rfl, by decide, by decide⟩ ⟨40, rfl, by decide, by decide⟩
    refine ⟨_, _, _, _, rfl, rfl, sqL (d2.app np1 g1), hx, ?_⟩
    have d02 : Dr s H H2 := (Dr.of hs s1).trans d2
    tm_at "rzs"
    intro n3 H3 d3 l3 u3
    obtain ⟨mn, hmn⟩ : ∃ m : Nat, 1 + n3 = (m : Int) := ⟨(1 + n3).toNat, by omega⟩
    tm_at "rd"
    dsimp only [gName]
    rw [hmn]
    tm_at "rzs"
    intro fi H4 d4 l4 u4
    tm_at "rzs"
    intro st H5 d5 l5 u5
    have d05 := ((d02.trans d3).trans d4).trans d5
    refine ⟨⟨_, rfl⟩, ?_⟩
    refine ⟨_, rfl, _, rfl, by omega, by omega, fun D hD => lcRm (n := mn) (fun k => V.str (sO [signL fi st k])) hD (by omega) (fun i H6 Kt Kf hi s6 kt => ?_) (fun H6 s6 g6 => ?_)⟩
    · tm_at "rzs"
      refine ⟨_, _, signL fi st i, rfl, rfl, Nat.le_of_ble_eq_true rfl, by rw [Int.zero_add]; exact signL_at fi st i, ?_⟩
      exact kt _ (Same.refl _)
    have g6 : H6 D = some (.lst ((((List.range mn).map fun k => signL fi st k).map fun c => [c]).map fun y => V.str (sO y))) := by rw [g6, List.map_map, List.map_map]; rfl
    refine ⟨[], D, _, by rw [empty_eq], rfl, sqL g6, ?_, ?_⟩
    · rw [List.length_map, List.length_map, List.length_range, List.length_nil, Nat.mul_zero]
      have : ∀ l : List Nat, ((l.map fun c => [c]).map List.length).sum = l.length := fun l => by
        induction l with
        | nil => rfl
        | cons c l ih => rw [List.map_cons, List.map_cons, List.sum_cons, ih]; show 1 + l.length = l.length + 1; omega
      rw [this, List.length_map, List.length_range]; omega
    rw [joinL_signs]
    refine k _ H6 (d05.same s6) ?_ ?_ fun c hc => ?_
    · rw [List.length_map, List.length_range]; omega
    · rw [List.length_map, List.length_range]; omega
    · obtain ⟨j, _, rfl⟩ := List.mem_map.mp hc
      exact signL_ok _ _ _
end
end My
namespace My
open PySem PySem.Spec PyProof.Rows L2
section
variable {P : Program} {w : World} {K : PySem.W.Frag} {mg : Str → Option Value} {base : Heap}
def sp_w_text : Sp := fun vs H Q _ => ∃ (s : Addr) (m : Nat), vs = [.ref s, .int (m : Int)] ∧ Src H s ∧ m ≤ 1000 ∧ ∀ (l : List Nat) (H' : Hp), Dr s H H' → l.length ≤ m → (∀ c ∈ l, c < 127) → Q (.str (sO l)) H'
theorem ok_w_text (T : Tx K mg) : FnOk P w K mg base CX0 4 T.d_w_text.f T.d_w_text.fd ["_law_source_here", "_law_most"] (sp_w_text) := by
  refine T.d_w_text.F.ok sc_w_text (fun vs H Q E h => ?_) (fun cdv A outer s H vs Q E hr h => ?_)
  · obtain ⟨s, m, rfl, _⟩ := h
    rfl
  · obtain ⟨s, m, rfl, hs, hm, k⟩ := h
    refine ⟨_, (pss_cons (ps_set (i := 2) sc_w_text.nd rfl (Or.inl rfl) pe_str)
      (pss_cons (ps_for PassesOwn.never (by rfl) (pi_range1 (by rfl) T.b_range (pa_cons (pe_call (ok_w_next T) (hr.mono (by decide)) (by rfl) T.d_w_next.g T.d_w_next.F.kp T.d_w_next.b .nil pass0 (pa_cons (pv 0) (pa_cons (pe_ix (ix_listK (K := K) rfl) (pe_lstA (pa_cons pe_int (pa_cons pe_int (pa_cons pe_int pa_nil)))) (pe_call (ok_w_next T) (hr.mono (by decide)) (by rfl) T.d_w_next.g T.d_w_next.F.kp T.d_w_next.b .nil pass0 (pa_cons (pv 0) (pa_cons pe_int pa_nil))) (fun _ _ => rfl)) pa_nil))) pa_nil)) (pg_name (i := 3) sc_w_text.nd rfl (Or.inl rfl))
      (pss_cons (ps_set (i := 4) sc_w_text.nd rfl (Or.inl rfl) (pe_call (ok_w_next T) (hr.mono (by decide)) (by rfl) T.d_w_next.g T.d_w_next.F.kp T.d_w_next.b .nil pass0 (pa_cons (pv 0) (pa_cons pe_int pa_nil))))
      (pss_cons (ps_if (pt_cmpR op_eq (pv 4) pe_int (nomark _))
      (pss_one (ps_set (i := 2) sc_w_text.nd rfl (Or.inl rfl) (pe_op op_add_str (pv 2) (pe_op op_repS pe_str (pe_op op_add pe_int (pe_call (ok_w_next T) (hr.mono (by decide)) (by rfl) T.d_w_next.g T.d_w_next.F.kp T.d_w_next.b .nil pass0 (pa_cons (pv 0) (pa_cons pe_int pa_nil))))))))
      pss_nil)
      (pss_cons (ps_if (pt_cmpR op_eq (pv 4) pe_int (nomark _))
      (pss_one (ps_set (i := 2) sc_w_text.nd rfl (Or.inl rfl) (pe_op op_add_str (pv 2) (pe_op op_repS pe_str (pe_op op_add pe_int (pe_call (ok_w_next T) (hr.mono (by decide)) (by rfl) T.d_w_next.g T.d_w_next.F.kp T.d_w_next.b .nil pass0 (pa_cons (pv 0) (pa_cons pe_int pa_nil))))))))
      pss_nil)
      (pss_one (ps_if (pt_cmpR op_gt (pv 4) pe_int (nomark _))
      (pss_one (ps_set (i := 2) sc_w_text.nd rfl (Or.inl rfl) (pe_op op_add_str (pe_op op_add_str (pv 2) (pe_call (ok_w_word T) (hr.mono (by decide)) (by rfl) T.d_w_word.g T.d_w_word.F.kp T.d_w_word.b .nil pass0 (pa_cons (pv 0) pa_nil))) (pe_ix (ix_listK (K := K) rfl) (pe_lstA (pa_cons pe_str (pa_cons pe_str (pa_cons pe_str (pa_cons pe_str pa_nil))))) (pe_call (ok_w_next T) (hr.mono (by decide)) (by rfl) T.d_w_next.g T.d_w_next.F.kp T.d_w_next.b .nil pass0 (pa_cons (pv 0) (pa_cons pe_int pa_nil))) (fun _ _ => rfl)))))
      pss_nil))))))
      (pss_one (ps_ret (pe_slice sl_str (pv 2) po_none (po_some (pv 1))))))), ?_⟩
    tm_at "rzs"
    intro p1 H1 f1 s1 g1
    have np1 : p1 ≠ s := hs.ne f1
    tm_at "rzs"
    intro n2 H2 d2 l2 u2
    obtain ⟨x, hx, far, rfl, far0, far1⟩ := pick3 (P := InR 1 41) l2 u2 ⟨3, rfl, by decide, by decide⟩ ⟨12, rfl, by decide, by decide⟩ ⟨40, rfl, by decide, by decide⟩
    refine ⟨_, _, _, _, rfl, rfl, sqL (d2.app np1 g1), hx, ?_⟩
    have d02 : Dr s H H2 := (Dr.of hs s1).trans d2
    tm_at "rzs"
    intro mz H3 d3 l3 u3
    have d03 := d02.trans d3
    refine ⟨_, rfl, by omega, by omega, ?_⟩
    refine for_range (lo := 0) (n := mz.toNat) (fun i σ H' => ∃ (l : List Nat) (v3 v4 : Option V), σ = [some (.ref s), some (.int (m : Int)), some (.str (sO l)), v3, v4] ∧ Dr s H H' ∧ l.length ≤ 50 * i ∧ ∀ c ∈ l, c < 127)
      ⟨[], _, _, by rw [← empty_eq]; rfl, d03, Nat.zero_le _, fun c h => by cases h⟩ ?_ ?_
    · rintro i σ H4 hi ⟨l, v3, v4, rfl, d4, ll, lb⟩
      dsimp only [gName]
      tm_at "rzs"
      intro wy H5 d5 l5 u5
      have d05 := d4.trans d5
      dsimp only [gName]
      show tSeq _ _ _ [some (.ref s), some (.int (m : Int)), some (.str (sO l)), some (.int (0 + (i : Int))), some (.int wy)] H5
      tm_at "rds"
      by_cases e0 : wy = 0
      · subst e0
        tm_at "rzs"
        intro n H6 d6 l6 u6
        refine ⟨_, _, rfl, rfl, ?_⟩
        refine ⟨10, (1 + n).toNat, by rw [feed_eq], by rw [Int.toNat_of_nonneg (by omega)], by omega, by omega, ?_⟩
        refine ⟨_, _, rfl, rfl, by rw [sO_len, sO_len, List.length_replicate, sizeLine_eq]; omega, ?_⟩
        rw [sO_append]
        tm_at "rzs"
        refine ⟨_, _, _, rfl, d05.trans d6, by rw [List.length_append, List.length_replicate]; omega, fun c hc => ?_⟩
        rcases List.mem_append.mp hc with h | h
        · exact lb c h
        · rw [List.eq_of_mem_replicate h]; decide
      refine iteF' (by rw [int_inj_dec]; exact decide_eq_false e0) ?_
      tm_at "rds"
      by_cases e1 : wy = 1
      · subst e1
        tm_at "rzs"
        intro n H6 d6 l6 u6
        refine ⟨_, _, rfl, rfl, ?_⟩
        refine ⟨32, (1 + n).toNat, by rw [blank_eq], by rw [Int.toNat_of_nonneg (by omega)], by omega, by omega, ?_⟩
        refine ⟨_, _, rfl, rfl, by rw [sO_len, sO_len, List.length_replicate, sizeLine_eq]; omega, ?_⟩
        rw [sO_append]
        tm_at "rzs"
        refine ⟨_, _, _, rfl, d05.trans d6, by rw [List.length_append, List.length_replicate]; omega, fun c hc => ?_⟩
        rcases List.mem_append.mp hc with h | h
        · exact lb c h
        · rw [List.eq_of_mem_replicate h]; decide
      refine iteF' (by rw [int_inj_dec]; exact decide_eq_false e1) ?_
      tm_at "rds"
      refine iteT' (decide_eq_true (by omega)) ?_
      tm_at "rds"
      intro y H6 d6 y1 y2 yb
      refine ⟨_, _, rfl, rfl, by rw [sO_len, sO_len, sizeLine_eq]; omega, ?_⟩
      rw [sO_append]
      tm_at "rzs"
      intro p7 H7 f7 s7 g7
      have np7 : p7 ≠ s := d6.s.ne f7
      tm_at "rzs"
      intro n8 H8 d8 l8 u8
      obtain ⟨x, hx, w, rfl, w1, wb⟩ := pick4 (P := fun v => ∃ w : List Nat, v = .str (sO w) ∧ w.length ≤ 1 ∧ ∀ c ∈ w, c < 127) l8 u8 (a := .str (Str.ofString " ")) (b := .str (Str.ofString " ")) (c := .str (Str.ofString " ")) (d := .str (Str.ofString "")) ⟨[32], by rw [blank_eq], Nat.le_refl _, by decide⟩ ⟨[32], by rw [blank_eq], Nat.le_refl _, by decide⟩ ⟨[32], by rw [blank_eq], Nat.le_refl _, by decide⟩ ⟨[], by rw [empty_eq], Nat.zero_le _, by decide⟩
      refine ⟨_, _, _, _, rfl, rfl, sqL (d8.app np7 g7), hx, ?_⟩
      refine ⟨_, _, rfl, rfl, by rw [sO_len, sO_len, List.length_append, sizeLine_eq]; omega, ?_⟩
      rw [sO_append]
      refine ⟨_, _, _, rfl, ((d05.trans d6).same s7).trans d8, by rw [List.length_append, List.length_append]; omega, fun c hc => ?_⟩
      rcases List.mem_append.mp hc with h | h
      · rcases List.mem_append.mp h with h | h
        · exact lb c h
        · exact (yb c h).2
      · exact wb c h
    · rintro σ H4 ⟨l, v3, v4, rfl, d4, ll, lb⟩
      tm_at "rzs"
      rw [cutS_take]
      refine ⟨by rw [sO_len, sizeLine_eq]; omega, ?_⟩
      exact k (l.take m) H4 d4 (by rw [List.length_take]; omega) fun c hc => lb c (List.mem_of_mem_take hc)
end
end My
namespace My
open PySem PySem.Spec PyProof.Rows L2
section
variable {P : Program} {w : World} {K : PySem.W.Frag} {mg : Str → Option Value} {base : Heap}
def sp_w_words : Sp := fun vs H Q _ => ∃ (l : List Nat), vs = [.str (sO l)] ∧ l.length ≤ 50000 ∧ ∀ p H', Same H H' → PtsAt H' p ((cut 10 l).map wordsL) → Q (.ref p) H'
theorem ok_w_words (T : Tx K mg) : FnOk P w K mg base CX0 1 T.d_w_words.f T.d_w_words.fd ["_law_text_here"] (sp_w_words) := by
  refine T.d_w_words.F.ok sc_w_words (fun vs H Q E h => ?_) (fun cdv A outer s H vs Q E hr h => ?_)
  · obtain ⟨l, rfl, _⟩ := h
    rfl
  · obtain ⟨l, rfl, hl, k⟩ := h
    refine ⟨_, (pss_cons (ps_set (i := 1) sc_w_words.nd rfl (Or.inl rfl) (pe_lstA (pa_cons (pe_lstA pa_nil) pa_nil)))
      (pss_cons (ps_set (i := 2) sc_w_words.nd rfl (Or.inl rfl) pe_str)
      (pss_cons (ps_for PassesOwn.never (by rfl) (pi_str (pe_op op_add_str (pv 0) pe_str)) (pg_name (i := 3) sc_w_words.nd rfl (Or.inl rfl))
      (pss_cons (ps_if (pt_cmpR op_notIn_sign (pv 3) pe_str (by rfl))
      (pss_one (ps_set (i := 2) sc_w_words.nd rfl (Or.inl rfl) (pe_op op_add_str (pv 2) (pv 3))))
      (pss_one (ps_if (pt_cmpR op_ne (pv 2) pe_str (nomark _))
      (pss_cons (ps_expr (pe_bm PySem.F.plainAttrs_list PySem.F.slot_list_append PySem.F.type_list_append mt_appendA (pe_ix (ix_listK (K := K) rfl) (pv 1) (pe_un un_neg pe_int) (fun _ _ => rfl)) (pa_cons (pv 2) pa_nil)))
      (pss_one (ps_set (i := 2) sc_w_words.nd rfl (Or.inl rfl) pe_str)))
      pss_nil)))
      (pss_one (ps_if (pt_cmpR op_eq (pv 3) pe_str (nomark _))
      (pss_one (ps_expr (pe_bm PySem.F.plainAttrs_list PySem.F.slot_list_append PySem.F.type_list_append mt_appendA (pv 1) (pa_cons (pe_lstA pa_nil) pa_nil))))
      pss_nil))))
      (pss_one (ps_ret (pe_slice (sl_listK (K := K) rfl) (pv 1) po_none (po_some (pe_un un_neg pe_int)))))))), ?_⟩
    tm_at "rzs"
    intro pi0 H1 f1 s1 g1
    tm_at "rzs"
    intro p H2 f2 s2 g2
    have np : pi0 ≠ p := ne_of_none g1 f2
    have fp : H p = none := s1.free f2
    tm_at "rzs"
    refine ⟨by rw [sO_len, feed_eq, show (⟨#[10]⟩ : Str) = sO [10] from rfl, sO_len, sizeLine_eq]; show l.length + 1 ≤ _; omega, ?_⟩
    rw [show sO l ++ Str.ofString "\n" = sO (l ++ [10]) from by rw [feed_eq, show (⟨#[10]⟩ : Str) = sO [10] from rfl, sO_append]]
    refine ⟨_, rfl, ?_⟩
    refine for_str (l := l ++ [10]) (fun i σ H' => ∃ (vs : List V) (dn : List (List (List Nat))) (pi : Addr) (cur : List (List Nat)) (wd : List Nat) (v3 : Option V), σ = [some (.str (sO l)), some (.ref p), some (.str (sO wd)), v3] ∧ Same H H' ∧ H' p = some (.lst (vs ++ [.ref pi])) ∧ H pi = none ∧ pi ≠ p ∧ H' pi = some (.lst (cur.map txV)) ∧ vs.length = dn.length ∧ (∀ (j : Nat) (v : V) (w : List (List Nat)), vs[j]? = some v → dn[j]? = some w → ∃ b, v = .ref b ∧ b ≠ pi ∧ b ≠ p ∧ H' b = some (.lst (w.map txV))) ∧ dn ++ wdsM cur wd ((l ++ [10]).drop i) = wdsM [] [] (l ++ [10]) ∧ dn.length ≤ i ∧ cur.length ≤ i ∧ wd.length ≤ i)
      ⟨[], [], pi0, [], [], _, by rw [← empty_eq]; rfl, s1.trans s2, g2, f1, np, s2 _ _ g1, rfl, fun j v w h => (by cases h), rfl, Nat.zero_le _, Nat.zero_le _, Nat.zero_le _⟩ ?_ ?_
    · rintro i c σ H3 hi ⟨vs, dn, pi, cur, wd, v3, rfl, s3, gp, fpi, npi, gpi, hvl, hv, hm, b1, b2, b3⟩
      have hil := (List.getElem?_eq_some_iff.mp hi).1
      have hd : (l ++ [10]).drop i = c :: (l ++ [10]).drop (i + 1) := List.drop_eq_getElem_cons hil |>.trans (by rw [(List.getElem?_eq_some_iff.mp hi).2])
      rw [List.length_append] at hil
      have hil : i < l.length + 1 := hil
      rw [hd] at hm
      dsimp only [gName]
      refine seq_key (fun σ H4 => ∃ (cur' : List (List Nat)) (wd' : List Nat), σ = [some (.str (sO l)), some (.ref p), some (.str (sO wd')), some (.str ⟨#[c]⟩)] ∧ Same H H4 ∧ H4 p = some (.lst (vs ++ [.ref pi])) ∧ H4 pi = some (.lst (cur'.map txV)) ∧ (∀ (j : Nat) (v : V) (w : List (List Nat)), vs[j]? = some v → dn[j]? = some w → ∃ b, v = .ref b ∧ b ≠ pi ∧ b ≠ p ∧ H4 b = some (.lst (w.map txV))) ∧ dn ++ (if c = 10 then cur' :: wdsM [] [] ((l ++ [10]).drop (i + 1)) else wdsM cur' wd' ((l ++ [10]).drop (i + 1))) = wdsM [] [] (l ++ [10]) ∧ cur'.length ≤ i + 1 ∧ wd'.length ≤ i + 1 ∧ (c = 10 → wd' = [])) ?_ ?_
      · rintro σ H4 ⟨cur', wd', rfl, s4, gp4, gpi4, hv4, hm4, b4, b5, we⟩
        tm_at "rds"
        rw [feed_dec]
        by_cases e : c = 10
        · refine iteT' (decide_eq_true e) ?_
          rw [if_pos e] at hm4
          have e' := we e
          subst e'
          tm_at "rzs"
          intro q H5 f5 s5 g5
          have nqp : q ≠ p := (ne_of_none gp4 f5).symm
          have nqi : q ≠ pi := (ne_of_none gpi4 f5).symm
          refine ⟨_, _, _, rfl, rfl, s5 _ _ gp4, by rw [List.length_append, sizeLine_eq]; show vs.length + 1 < _; omega, fun H6 b6 g6 => ?_⟩
          refine ⟨vs ++ [.ref pi], dn ++ [cur'], q, [], [], _, rfl, Same.mut' (s4.trans s5) b6 fp, g6, s4.free f5, nqp, b6 _ _ nqp g5, by rw [List.length_append, List.length_append, hvl]; rfl, fun j v w h1 h2 => ?_, by rw [List.append_assoc]; exact hm4, by rw [List.length_append]; exact Nat.succ_le_succ b1, Nat.zero_le _, Nat.zero_le _⟩
          by_cases hj : j < vs.length
          · rw [List.getElem?_append_left hj] at h1
            rw [List.getElem?_append_left (by omega)] at h2
            obtain ⟨b, rfl, n1, n2, g⟩ := hv4 j v w h1 h2
            exact ⟨b, rfl, (ne_of_none g f5), n2, b6 _ _ n2 (s5 _ _ g)⟩
          · have hj1 := (List.getElem?_eq_some_iff.mp h1).1
            rw [List.length_append] at hj1
            have hj1 : j < vs.length + 1 := hj1
            have ej : j = vs.length := by omega
            subst ej
            rw [List.getElem?_append_right (Nat.le_refl _), Nat.sub_self] at h1
            rw [hvl, List.getElem?_append_right (Nat.le_refl _), Nat.sub_self] at h2
            cases h1
            cases h2
            exact ⟨pi, rfl, nqi.symm, npi, b6 _ _ npi (s5 _ _ gpi4)⟩
        · refine iteF' (decide_eq_false e) ?_
          rw [if_neg e] at hm4
          tm_at "rzs"
          exact ⟨vs, dn, pi, cur', wd', _, rfl, s4, gp4, fpi, npi, gpi4, hvl, hv4, hm4, by omega, b4, b5⟩
      · intro N hN
        tm_at "rds"
        rw [ends_dec]
        by_cases e : c = 32 ∨ c = 10
        · refine iteF' (by rw [decide_eq_true e]; rfl) ?_
          have hm2 : dn ++ (if c = 10 then (if wd.isEmpty then cur else cur ++ [wd]) :: wdsM [] [] ((l ++ [10]).drop (i + 1)) else wdsM (if wd.isEmpty then cur else cur ++ [wd]) [] ((l ++ [10]).drop (i + 1))) = wdsM [] [] (l ++ [10]) := by
            rcases e with rfl | rfl
            · exact hm
            · exact hm
          tm_at "rds"
          rw [empty_dec]
          cases ew : wd.isEmpty with
          | true =>
            refine iteF' rfl ?_
            rw [if_pos ew] at hm2
            have ew : wd = [] := List.isEmpty_iff.mp ew
            subst ew
            exact hN _ _ ⟨cur, [], by rw [← empty_eq]; rfl, s3, gp, gpi, hv, hm2, by omega, by omega, fun _ => rfl⟩
          | false =>
            refine iteT' rfl ?_
            rw [if_neg (show ¬ wd.isEmpty = true by rw [ew]; decide)] at hm2
            tm_at "rds"
            refine ⟨_, _, _, _, rfl, rfl, sqL gp, atI_last _ _, ?_⟩
            tm_at "rzs"
            refine ⟨_, _, _, rfl, rfl, gpi, by rw [List.length_map, sizeLine_eq]; omega, fun H4 b4 g4 => ?_⟩
            tm_at "rzs"
            refine hN _ _ ⟨cur ++ [wd], [], by rw [← empty_eq]; rfl, Same.mut' s3 b4 fpi, b4 _ _ npi.symm gp, by rw [g4, List.map_append]; rfl, fun j v w h1 h2 => ?_, hm2, by rw [List.length_append]; exact Nat.succ_le_succ b2, Nat.zero_le _, fun _ => rfl⟩
            obtain ⟨b, rfl, n1, n2, g⟩ := hv j v w h1 h2
            exact ⟨b, rfl, n1, n2, b4 _ _ n1 g⟩
        · refine iteT' (by rw [decide_eq_false e]; rfl) ?_
          rw [wdsM_sign e] at hm
          tm_at "rds"
          refine ⟨by rw [show (⟨#[c]⟩ : Str) = sO [c] from rfl, sO_len, sO_len, sizeLine_eq]; show wd.length + 1 ≤ _; omega, ?_⟩
          rw [show (⟨#[c]⟩ : Str) = sO [c] from rfl, sO_append]
          exact hN _ _ ⟨cur, wd ++ [c], rfl, s3, gp, gpi, hv, by rw [if_neg (fun h => e (Or.inr h))]; exact hm, by omega, by rw [List.length_append]; exact Nat.succ_le_succ b3, fun h => absurd (Or.inr h) e⟩
    · rintro σ H3 ⟨vs, dn, pi, cur, wd, v3, rfl, s3, gp, fpi, npi, gpi, hvl, hv, hm, b1, b2, b3⟩
      rw [List.drop_length, wdsM_all] at hm
      have hm : dn ++ [cur] = (cut 10 l).map wordsL ++ [[]] := hm
      obtain ⟨hm, _⟩ := List.append_inj' hm rfl
      subst hm
      tm_at "rzs"
      refine ⟨_, _, rfl, sqL gp, fun q H4 f4 s4 g4 => ?_⟩
      refine k q H4 (s3.trans s4) ⟨vs, by rw [g4, cutV_init, List.length_append, List.length_singleton, Nat.add_sub_cancel, List.take_left'] <;> rfl, hvl, fun j v w h1 h2 => ?_⟩
      obtain ⟨b, rfl, _, _, g⟩ := hv j v w h1 h2
      exact ⟨b, rfl, s4 _ _ g⟩
end
end My
namespace My
open PySem PySem.Spec PyProof.Rows L2
section
variable {P : Program} {w : World} {K : PySem.W.Frag} {mg : Str → Option Value} {base : Heap}
def sp_w_lines_right : Sp := fun vs H Q _ => ∃ (a b : Addr) (l : List Nat) (w : Nat), vs = [.ref a, .ref b, .int (w : Int), .int (longL l : Nat)] ∧ l.length ≤ 120 ∧ H a = some (.lst ((wrapL w l).map txV)) ∧ H b = some (.lst (((cut 10 l).flatMap wordsL).map txV)) ∧ ∀ H', Same H H' → Q (.bl true) H'
theorem ok_w_lines_right (T : Tx K mg) : FnOk P w K mg base CX0 1 T.d_w_lines_right.f T.d_w_lines_right.fd ["_law_lines", "_law_words_here", "_law_wide", "_law_long"] (sp_w_lines_right) := by
  refine T.d_w_lines_right.F.ok sc_w_lines_right (fun vs H Q E h => ?_) (fun cdv A outer s H vs Q E hr h => ?_)
  · obtain ⟨a, b, l, w, rfl, _⟩ := h
    rfl
  · obtain ⟨a, b, l, w, rfl, hl, ha, hb, k⟩ := h
    refine ⟨_, (pss_cons (ps_set (i := 4) sc_w_lines_right.nd rfl (Or.inl rfl) (pe_lstA pa_nil))
      (pss_cons (ps_for PassesOwn.never (by rfl) (pi_listK (K := K) rfl (pv 0)) (pg_name (i := 5) sc_w_lines_right.nd rfl (Or.inl rfl))
      (pss_one (ps_if (pt_cmpR op_ne (pv 5) pe_str (nomark _))
      (pss_one (ps_set (i := 4) sc_w_lines_right.nd rfl (Or.inl rfl) (pe_op (op_catK (K := K) rfl) (pv 4) (pe_splitN (pv 5) pe_str))))
      pss_nil)))
      (pss_cons (ps_if (pt_cmpR (op_neTxK (K := K) hr.units rfl) (pv 4) (pv 1) (nomark _))
      (pss_one (ps_ret pe_bl))
      pss_nil)
      (pss_one (ps_ret (pe_cmpR op_eq (pe_cmpR op_gt (pe_callB (cr_maxK (K := K) rfl rfl) (by rfl) T.b_max (by decide +kernel) (pa_cons (pe_lc (own := [("_law_line", 5)]) (g := gName 5) (by rfl) sc_w_lines_right.nd (pi_listK (K := K) rfl (pv 0)) (blkOk_by (own := [("_law_line", 5)]) (N := N_w_lines_right) (sc := defScope s_w_lines_right) (by decide +kernel)) (fun _ _ _ _ _ => (pg_name (i := 5) sc_w_lines_right.nd rfl (Or.inl rfl))) (fun _ _ _ _ _ => pts_nil) (fun _ _ _ _ _ => (pe_callB (call_lenK (K := K) rfl) (by rfl) T.b_len (by decide +kernel) (pa_cons (pv 5) pa_nil)))) pa_nil)) (pv 2) (nomark _)) (pe_cmpR op_gt (pv 3) (pv 2) (nomark _)) (nomark _))))))), ?_⟩
    have hws := wrap_sum w l
    have hwl := wrapL_len w l
    have hfc : ∀ i, (((wrapL w l).take i).flatMap wordsL).length ≤ 240 := fun i => Nat.le_trans (flat_take _ _ _) (Nat.le_trans (flat_count _) (by omega))
    tm_at "rzs"
    intro p1 H1 f1 s1 g1
    dsimp only [gName]
    tm_at "rzs"
    refine ⟨⟨_, sqL (s1 _ _ ha)⟩, for_list (K := K) (a := a) (xs := (wrapL w l).map txV) (fun i σ H' => ∃ (q : Addr) (v5 : Option V), σ = [some (.ref a), some (.ref b), some (.int (w : Int)), some (.int (longL l : Nat)), some (.ref q), v5] ∧ Same H H' ∧ H' q = some (.lst ((((wrapL w l).take i).flatMap wordsL).map txV)))
      ⟨p1, _, rfl, s1, g1⟩ (fun i σ H' _ ⟨_, _, _, s, _⟩ => sqL (s _ _ ha)) ?_ ?_⟩
    · rintro i x σ H2 hx ⟨q, v5, rfl, s2, g2⟩
      obtain ⟨y, hy, rfl⟩ := of_map hx
      have my := List.mem_of_getElem? hy
      have ly := mem_sum my
      dsimp only [gName]
      tm_at "rds"
      rw [empty_dec]
      cases e : y.isEmpty with
      | true =>
        have e : y = [] := List.isEmpty_iff.mp e
        subst e
        refine iteF' rfl ?_
        exact ⟨q, _, rfl, s2, by rw [g2, flat_take_succ _ hy, show wordsL [] = [] from rfl, List.append_nil]⟩
      | false =>
        have hn : y ≠ [] := fun h => by rw [h] at e; cases e
        refine iteT' rfl ?_
        refine ⟨_, rfl, ?_⟩
        refine ⟨_, rfl, ⟨_, rfl⟩, y, 32, rfl, by rw [blank_eq], by decide, by rw [sizeLine_eq]; omega, fun p3 H3 f3 s3 g3 => ?_⟩
        rw [line_cut my hn] at g3
        have := hfc i
        have := words_count y
        refine ⟨_, _, _, _, rfl, rfl, s3 _ _ g2, g3, by rw [List.length_map, List.length_map, sizeLine_eq]; omega, fun p4 H4 f4 s4 g4 => ?_⟩
        exact ⟨p4, _, rfl, (s2.trans s3).trans s4, by rw [g4, flat_take_succ _ hy, List.map_append]⟩
    · rintro σ H2 ⟨q, v5, rfl, s2, g2⟩
      rw [List.length_map, List.take_length, wrap_words] at g2
      tm_at "rzs"
      refine ⟨q, b, _, _, rfl, rfl, sqL g2, sqL (s2 _ _ hb), ?_⟩
      tm_at "rds"
      refine iteF' (by rw [decide_eq_true rfl]; rfl) ?_
      have ga2 := s2 _ _ ha
      tm_at "rzs"
      refine ⟨⟨_, sqL ga2⟩, fun D5 hD5 => lcLm (K := K) txV (fun y => V.int (y.length : Nat)) hD5 (sqL ga2) (by omega) (fun i y H5 Kt Kf hy s5 kt => ?_) (fun H5 s5 g5 => ?_)⟩
      · have hy1 := mem_sum (List.mem_of_getElem? hy)
        tm_at "rds"
        refine ⟨_, y.length, rfl, ⟨by show y.toArray.size ≤ sizeLine; rw [List.size_toArray, sizeLine_eq]; omega, by show y.length = y.toArray.size; rw [List.size_toArray]⟩, ?_⟩
        exact kt _ (Same.refl _)
      have g5 : H5 D5 = some (.lst ((((wrapL w l).map List.length).map Int.ofNat).map V.int)) := by rw [g5, List.map_map, List.map_map]; rfl
      tm_at "rzs"
      refine ⟨D5, _, rfl, sqL g5, by rw [List.length_map, List.length_map]; exact List.length_pos_iff.mpr (wrapL_ne w l), fun mx hm hg => ?_⟩
      rw [maxN_of hm hg]
      have hlong := line_long w l
      have e : decide (((maxN ((wrapL w l).map List.length) : Nat) : Int) > (w : Int)) = decide (((longL l : Nat) : Int) > (w : Int)) := decide_eq_decide.mpr ⟨fun h => by have := hlong.mp (by omega); omega, fun h => by have := hlong.mpr (by omega); omega⟩
      tm_at "rzs"
      show Q (.bl (decide (V.bl (decide (((maxN ((wrapL w l).map List.length) : Nat) : Int) > (w : Int))) = V.bl (decide (((longL l : Nat) : Int) > (w : Int)))))) H5
      rw [e, decide_eq_true rfl]
      exact k _ (s2.trans s5)
end
end My
namespace My
open PySem PySem.Spec PyProof.Rows L2
section
variable {P : Program} {w : World} {K : PySem.W.Frag} {mg : Str → Option Value} {base : Heap}
def sp_law (K : PySem.W.Frag) : Sp := fun vs H Q _ => ∃ (a : Addr) (ns : List Int), vs = [.ref a] ∧ SqL K H a (ns.map V.int) ∧ ns.length ≤ 63 ∧ ∀ H', Q (.bl true) H'
theorem ok_law (T : Tx K mg) : FnOk P w K mg base CX0 5 T.d_law.f T.d_law.fd ["_law_script"] (sp_law K) := by
  refine T.d_law.F.ok sc_law (fun vs H Q E h => ?_) (fun cdv A outer s H vs Q E hr h => ?_)
  · obtain ⟨a, s, rfl, _⟩ := h
    rfl
  · obtain ⟨a, ns, rfl, hS, hl, k⟩ := h
    refine ⟨_, (pss_cons (ps_for PassesOwn.never (by rfl) (pi_listK (K := K) rfl (pe_op (op_catK (K := K) rfl) (pe_lstA (pa_cons (pe_call (ok_w_cell_at T) (hr.mono (by decide)) (by rfl) T.d_w_cell_at.g T.d_w_cell_at.F.kp T.d_w_cell_at.b .nil pass0 (pa_cons (pv 0) (pa_cons pe_int pa_nil))) pa_nil)) (pe_slice (sl_listK (K := K) rfl) (pv 0) (po_some pe_int) (po_some pe_int)))) (pg_name (i := 1) sc_law.nd rfl (Or.inl rfl))
      (pss_cons (ps_set (i := 2) sc_law.nd rfl (Or.inl rfl) (pe_call (ok_w_source T) (hr.mono (by decide)) (by rfl) T.d_w_source.g T.d_w_source.F.kp T.d_w_source.b .nil pass0 (pa_cons (pv 1) pa_nil)))
      (pss_cons (ps_set (i := 3) sc_law.nd rfl (Or.inl rfl) (pe_call (ok_w_next T) (hr.mono (by decide)) (by rfl) T.d_w_next.g T.d_w_next.F.kp T.d_w_next.b .nil pass0 (pa_cons (pv 2) (pa_cons (pe_ix (ix_listK (K := K) rfl) (pe_lstA (pa_cons pe_int (pa_cons pe_int (pa_cons (pe_op op_pow pe_int pe_int) pa_nil)))) (pe_call (ok_w_next T) (hr.mono (by decide)) (by rfl) T.d_w_next.g T.d_w_next.F.kp T.d_w_next.b .nil pass0 (pa_cons (pv 2) (pa_cons pe_int pa_nil))) (fun _ _ => rfl)) pa_nil))))
      (pss_cons (ps_set (i := 4) sc_law.nd rfl (Or.inl rfl) (pe_call (ok_w_text T) (hr.mono (by decide)) (by rfl) T.d_w_text.g T.d_w_text.F.kp T.d_w_text.b .nil pass0 (pa_cons (pv 2) (pa_cons pe_int pa_nil))))
      (pss_cons (ps_set (i := 5) sc_law.nd rfl (Or.inl rfl) (pe_call (ok_w_words T) (hr.mono (by decide)) (by rfl) T.d_w_words.g T.d_w_words.F.kp T.d_w_words.b .nil pass0 (pa_cons (pv 4) pa_nil)))
      (pss_cons (ps_set (i := 6) sc_law.nd rfl (Or.inl rfl) (pe_lstA pa_nil))
      (pss_cons (ps_for PassesOwn.never (by rfl) (pi_listK (K := K) rfl (pv 5)) (pg_name (i := 7) sc_law.nd rfl (Or.inl rfl))
      (pss_one (ps_set (i := 6) sc_law.nd rfl (Or.inl rfl) (pe_op (op_catK (K := K) rfl) (pv 6) (pv 7)))))
      (pss_cons (ps_set (i := 8) sc_law.nd rfl (Or.inl rfl) (pe_callB (cr_maxK (K := K) rfl rfl) (by rfl) T.b_max (by decide +kernel) (pa_cons (pe_op (op_catK (K := K) rfl) (pe_lstA (pa_cons pe_int pa_nil)) (pe_lc (own := [("_law_word_here", 13)]) (g := gName 13) (by rfl) sc_law.nd (pi_listK (K := K) rfl (pv 6)) (blkOk_by (own := [("_law_word_here", 13)]) (N := N_law) (sc := defScope s_law) (by decide +kernel)) (fun _ _ _ _ _ => (pg_name (i := 13) sc_law.nd rfl (Or.inl rfl))) (fun _ _ _ _ _ => pts_nil) (fun _ _ _ _ _ => (pe_callB (call_lenK (K := K) rfl) (by rfl) T.b_len (by decide +kernel) (pa_cons (pv 13) pa_nil))))) pa_nil)))
      (pss_cons (ps_set (i := 9) sc_law.nd rfl (Or.inl rfl) (pe_callB (cr_maxK (K := K) rfl rfl) (by rfl) T.b_max (by decide +kernel) (pa_cons (pe_lc (own := [("_law_words_here", 7)]) (g := gName 7) (by rfl) sc_law.nd (pi_listK (K := K) rfl (pv 5)) (blkOk_by (own := [("_law_words_here", 7)]) (N := N_law) (sc := defScope s_law) (by decide +kernel)) (fun _ _ _ _ _ => (pg_name (i := 7) sc_law.nd rfl (Or.inl rfl))) (fun _ _ _ _ _ => pts_nil) (fun _ _ _ _ _ => (pe_callB (call_lenK (K := K) rfl) (by rfl) T.b_len (by decide +kernel) (pa_cons (pe_joinN (K := K) rfl pe_str (pv 7)) pa_nil)))) pa_nil)))
      (pss_cons (ps_set (i := 10) sc_law.nd rfl (Or.inl rfl) pe_non)
      (pss_one (ps_for PassesOwn.never (by rfl) (pi_listK (K := K) rfl (pe_op (op_catK (K := K) rfl) (pe_listRg rfl (by rfl) T.b_list (prg_1 (by rfl) T.b_range (pe_callB (call_min2 rfl) (by rfl) T.b_min (by decide +kernel) (pa_cons pe_int (pa_cons (pe_op op_add (pv 9) pe_int) pa_nil))))) (pe_lstA (pa_cons (pe_op op_add (pv 9) (pv 3)) pa_nil)))) (pg_name (i := 11) sc_law.nd rfl (Or.inl rfl))
      (pss_cons (ps_set (i := 12) sc_law.nd rfl (Or.inl rfl) (pe_call (ok_wrapped T) (hr.mono (by decide)) (by rfl) T.d_wrapped.g T.d_wrapped.F.kp T.d_wrapped.b .nil pass0 (pa_cons (pv 4) (pa_cons (pv 11) pa_nil))))
      (pss_cons (ps_if (PW.pt (pw_or (pt_not (pt_val (pe_call (ok_w_lines_right T) (hr.mono (by decide)) (by rfl) T.d_w_lines_right.g T.d_w_lines_right.F.kp T.d_w_lines_right.b .nil pass0 (pa_cons (pv 12) (pa_cons (pv 6) (pa_cons (pv 11) (pa_cons (pv 8) pa_nil))))))) (pw_or1 (PW.pt (pw_and (pt_cmpR op_notN (pv 10) pe_non (nomark _)) (pw_and1 (pt_cmpR op_gt (pe_callB (call_lenK (K := K) rfl) (by rfl) T.b_len (by decide +kernel) (pa_cons (pv 12) pa_nil)) (pv 10) (nomark _))))))))
      (pss_one (ps_ret pe_bl))
      pss_nil)
      (pss_cons (ps_if (PW.pt (pw_and (pt_cmpR op_ge (pv 11) (pv 9) (nomark _)) (pw_and1 (pt_cmpR op_ne (pe_callB (call_lenK (K := K) rfl) (by rfl) T.b_len (by decide +kernel) (pa_cons (pv 12) pa_nil)) (pe_callB (call_lenK (K := K) rfl) (by rfl) T.b_len (by decide +kernel) (pa_cons (pv 5) pa_nil)) (nomark _)))))
      (pss_one (ps_ret pe_bl))
      pss_nil)
      (pss_cons (ps_if (PW.pt (pw_and (pt_chain op_le op_lt (pv 8) (pv 11) (pv 9)) (pw_and1 (pt_cmpR op_le (pe_callB (call_lenK (K := K) rfl) (by rfl) T.b_len (by decide +kernel) (pa_cons (pv 12) pa_nil)) (pe_callB (call_lenK (K := K) rfl) (by rfl) T.b_len (by decide +kernel) (pa_cons (pv 5) pa_nil)) (nomark _)))))
      (pss_one (ps_ret pe_bl))
      pss_nil)
      (pss_one (ps_set (i := 10) sc_law.nd rfl (Or.inl rfl) (pe_callB (call_lenK (K := K) rfl) (by rfl) T.b_len (by decide +kernel) (pa_cons (pv 12) pa_nil))))))))))))))))))))
      (pss_one (ps_ret pe_bl))), ?_⟩
    tm_at "rzs"
    intro p0 G0 f0 S0 g0
    tm_at "rzs"
    refine ⟨a, _, rfl, S0.seq hS, ?_⟩
    intro p1 G1 f1 S1 g1
    refine ⟨_, _, _, _, rfl, rfl, S1 _ _ g0, g1, cells_len hl, ?_⟩
    intro p2 G2 f2 S2 g2
    generalize hcs : ([V.int (ns.headD 0)] ++ cutV (ns.map V.int) (some 1) (some 3)) = cells at g2
    have hci : ∀ i y, cells[i]? = some y → ∃ z, y = V.int z := fun i y h => cells_ints (by rw [hcs]; exact h)
    refine ⟨_, rfl, ⟨_, sqL g2⟩, for_list (K := K) (a := p2) (xs := cells) (fun i σ H3 => ∃ v1 v2 v3 v4 v5 v6 v7 v8 v9 v10 v11 v12 v13, σ = [some (.ref a), v1, v2, v3, v4, v5, v6, v7, v8, v9, v10, v11, v12, v13] ∧ H3 p2 = some (.lst cells))
      ⟨_, _, _, _, _, _, _, _, _, _, _, _, _, rfl, g2⟩ (fun i σ H3 _ ⟨_, _, _, _, _, _, _, _, _, _, _, _, _, _, q⟩ => sqL q) ?_ ?_⟩
    · rintro i y σ H3 hi ⟨v1, v2, v3, v4, v5, v6, v7, v8, v9, v10, v11, v12, v13, rfl, q3⟩
      obtain ⟨z, rfl⟩ := hci i y hi
      tm_at "rzs"
      intro s H4 f4 S4 g4
      have hs4 : Src H4 s := ⟨_, g4⟩
      have np2 : p2 ≠ s := ne_of_none q3 f4
      dsimp only [gName]
      tm_at "rzs"
      intro p7 H7 f7 s7 g7
      have np7 : p7 ≠ s := hs4.ne f7
      tm_at "rzs"
      intro n8 H8 d8 l8 u8
      obtain ⟨x, hx, far2, rfl, far0, far1⟩ := pick3 (P := InR 1 100000000001) l8 u8 (a := .int 9) (b := .int 400) (c := .int (10 ^ (11 : Int).toNat)) ⟨_, rfl, by decide, by decide⟩ ⟨_, rfl, by decide, by decide⟩ ⟨_, rfl, by decide, by decide⟩
      refine ⟨_, _, _, _, rfl, rfl, sqL (d8.app np7 g7), hx, ?_⟩
      have d8' : Dr s H4 H8 := (Dr.of hs4 s7).trans d8
      tm_at "rzs"
      intro far H9 d9 l9 u9
      obtain ⟨fa, rfl⟩ := Int.eq_ofNat_of_zero_le l9
      dsimp only [gName]
      refine ⟨_, rfl, s, 120, rfl, d9.s, by decide, fun l H10 d10 lo bo => ?_⟩
      dsimp only [gName]
      tm_at "rzs"
      intro pp H11 s11 hp11
      obtain ⟨hpn, hpl, hpw⟩ := parts_ok lo
      have d11 : Dr s H4 H11 := ((d8'.trans d9).trans d10).same s11
      dsimp only [gName]
      tm_at "rzs"
      intro p12 H12 f12 s12 g12
      dsimp only [gName]
      obtain ⟨zs, gz, ezs, hzs⟩ := (hp11.same s12).pairs
      have lz : zs.length = (cut 10 l).length := by rw [← List.length_map (f := Prod.snd), ezs, List.length_map]
      have hzw : ∀ y ∈ zs, (y.2.map List.length).sum + y.2.length ≤ 240 := fun y hy => Nat.le_trans (hpw y.2 (by rw [← ezs]; exact List.mem_map.mpr ⟨y, hy, rfl⟩)) (by omega)
      have hcl := cut_len 10 l
      have hfc : ∀ i, (((cut 10 l).take i).flatMap wordsL).length ≤ 120 := fun i => Nat.le_trans (flat_take _ _ _) (Nat.le_trans (flat_count _) (Nat.le_trans (cut_sum 10 l) lo))
      refine seq_key (M := fun σ H' => ∃ (q : Addr) (v7 v8 v9 v10 v11 v12 v13 : Option V), σ = [some (.ref a), some (.int z), some (.ref s), some (.int (fa : Int)), some (.str (sO l)), some (.ref pp), some (.ref q), v7, v8, v9, v10, v11, v12, v13] ∧ Same H12 H' ∧ H' q = some (.lst (((cut 10 l).flatMap wordsL).map txV))) ?_ (fun NN hNN => ?_)
      · rintro σ H13 ⟨q, v7, v8, v9, v10, v11, v12, v13, rfl, s13, g13⟩
        have hfl : ((cut 10 l).flatMap wordsL).length ≤ 120 := by
          have := hfc (cut 10 l).length
          rwa [List.take_length] at this
        tm_at "rzs"
        intro q1 H14 f14 s14 g14
        have gq14 := s14 _ _ g13
        tm_at "rzs"
        refine ⟨⟨_, sqL gq14⟩, fun D3 hD3 => lcLm (K := K) txV (fun y => V.int (y.length : Nat)) hD3 (sqL gq14) (by omega) (fun j u H4' Kt4 Kf4 hu s4 kt4 => ?_) (fun H15 s15 g15 => ?_)⟩
        · have hu1 : u.length ≤ 120 := by
            obtain ⟨p, hp, hu'⟩ := List.mem_flatMap.mp (List.mem_of_getElem? hu)
            have h1 := mem_sum hu'
            have h2 := words_sum p
            have h3 := part_len hp
            omega
          tm_at "rds"
          refine ⟨_, u.length, rfl, ⟨by show u.toArray.size ≤ sizeLine; rw [List.size_toArray, sizeLine_eq]; omega, by show u.length = u.toArray.size; rw [List.size_toArray]⟩, ?_⟩
          exact kt4 _ (Same.refl _)
        refine ⟨_, _, _, _, rfl, rfl, s15 _ _ g14, g15, by rw [List.length_map, sizeLine_eq]; show 1 + _ ≤ _; omega, fun q5 H16 f16 s16 g16 => ?_⟩
        rw [lens_V] at g16
        tm_at "rzs"
        refine ⟨q5, _, rfl, sqL g16, Nat.succ_pos _, fun m hm hg => ?_⟩
        rw [max0_of hm hg, show maxN (((cut 10 l).flatMap wordsL).map List.length) = longL l from rfl]
        dsimp only [gName]
        have s1216 := ((s13.trans s14).trans s15).trans s16
        have gz16 := s1216 _ _ gz
        have hz16 : ∀ y ∈ zs, WdsAt H16 y.1 y.2 := fun y hy => (hzs y hy).same s1216
        tm_at "rzs"
        refine ⟨⟨_, sqL gz16⟩, fun D4 hD4 => lcLm (K := K) Prod.fst (fun y => V.int ((jn y.2).length : Nat)) hD4 (sqL gz16) (by omega) (fun i y H17 Kt Kf hy s17 kt => ?_) (fun H17 s17 g17 => ?_)⟩
        · have my := List.mem_of_getElem? hy
          have wy := hzw y my
          obtain ⟨b, eb, gb⟩ := (hz16 y my).same s17
          obtain ⟨y1, y2⟩ := y
          subst eb
          have wy : (y2.map List.length).sum + y2.length ≤ 240 := wy
          have hj : (jn y2).length ≤ 240 := by
            show (TL.joinL [32] y2).length ≤ _
            rw [joinL_len]; omega
          tm_at "rd"
          refine ⟨⟨_, rfl⟩, ?_⟩
          refine ⟨_, rfl, ?_⟩
          refine ⟨[32], b, y2, by rw [blank_eq], rfl, sqL gb, (by show _ + y2.length * 1 ≤ _; omega), ?_⟩
          tm_at "rzs"
          refine ⟨_, (jn y2).length, rfl, ⟨by show (jn y2).toArray.size ≤ sizeLine; rw [List.size_toArray, sizeLine_eq]; omega, by show (jn y2).length = (jn y2).toArray.size; rw [List.size_toArray]⟩, ?_⟩
          exact kt _ (Same.refl _)
        have g17 : H17 D4 = some (.lst ((((cut 10 l).map fun p => (joined p).length).map Int.ofNat).map V.int)) := by
          rw [g17, show (zs.map fun y => V.int ((jn y.2).length : Nat)) = (zs.map Prod.snd).map (fun w => V.int ((jn w).length : Nat)) from by rw [List.map_map]; rfl, ezs, List.map_map, List.map_map, List.map_map]; rfl
        tm_at "rzs"
        refine ⟨D4, _, rfl, sqL g17, by rw [List.length_map, List.length_map]; obtain ⟨p, ps, e⟩ := cut_ne 10 l; rw [e]; exact Nat.succ_pos _, fun m hm hg => ?_⟩
        rw [maxN_of hm hg, show maxN ((cut 10 l).map fun p => (joined p).length) = wishL l from rfl]
        dsimp only [gName]
        have s1217 := s1216.trans s17
        have g617 : H17 q = some (.lst (((cut 10 l).flatMap wordsL).map txV)) := s17 _ _ (s16 _ _ (s15 _ _ gq14))
        have hwish : wishL l ≤ 240 := by
          refine maxN_le fun y0 hy0 => ?_
          obtain ⟨p, hp, rfl⟩ := List.mem_map.mp hy0
          have h1 := part_len hp
          have h2 := words_sum p
          have h3 := words_count p
          show (TL.joinL [32] (wordsL p)).length ≤ _
          rw [joinL_len]; omega
        have hfa : fa ≤ 100000000000 := by omega
        tm_at "rzs"
        obtain ⟨nw, hnw, nw1, nw2⟩ : ∃ nw : Nat, (if (wishL l : Int) + 2 < 60 then (wishL l : Int) + 2 else 60) = (nw : Int) ∧ nw ≤ 60 ∧ nw ≤ wishL l + 2 := by
          by_cases h : (wishL l : Int) + 2 < 60
          · exact ⟨wishL l + 2, by rw [if_pos h]; rfl, by omega, by omega⟩
          · exact ⟨60, by rw [if_neg h]; rfl, by omega, by omega⟩
        rw [hnw]
        refine ⟨RgOk.of_le (by omega) (by omega) (by omega) (by omega), fun q18 f18 => ?_⟩
        have s18 := Same.upd0 (o := HO.lst (rgV 0 (nw : Int))) f18
        have g18 : L2.upd H17 q18 (.lst (rgV 0 (nw : Int))) q18 = some (.lst ((List.range nw).map fun i : Nat => V.int (i : Int))) := by
          rw [upd_same]
          unfold rgV
          rw [Int.sub_zero, Int.toNat_natCast]
          congr 2
          exact List.map_congr_left fun i _ => by rw [Int.zero_add]
        generalize L2.upd H17 q18 (.lst (rgV 0 (nw : Int))) = H18 at s18 g18 ⊢
        tm_at "rzs"
        intro q19 H19 f19 s19 g19
        refine ⟨_, _, _, _, rfl, rfl, s19 _ _ g18, g19, by rw [List.length_map, List.length_range, sizeLine_eq]; show nw + 1 ≤ _; omega, fun q20 H20 f20 s20 g20 => ?_⟩
        have g20 : H20 q20 = some (.lst (((List.range nw ++ [wishL l + fa]).map Int.ofNat).map V.int)) := by
          rw [g20, List.map_append, List.map_append, List.map_map]; rfl
        have s1220 := ((s1217.trans s18).trans s19).trans s20
        have g620 := ((s18.trans s19).trans s20) _ _ g617
        have gz20 := s1220 _ _ gz
        have q20' : H20 p2 = some (.lst cells) := s1220 _ _ (s12 _ _ (d11.app np2 (S4 _ _ q3)))
        have hWl : (List.range nw ++ [wishL l + fa]).length = nw + 1 := by rw [List.length_append, List.length_range]; rfl
        tm_at "rzs"
        refine ⟨⟨_, sqL g20⟩, for_list (K := K) (a := q20) (xs := ((List.range nw ++ [wishL l + fa]).map Int.ofNat).map V.int) (fun i σ H' => ∃ (v7 vm v11 v12 v13 : Option V), σ = [some (.ref a), some (.int z), some (.ref s), some (.int (fa : Int)), some (.str (sO l)), some (.ref pp), some (.ref q), v7, some (.int (longL l : Nat)), some (.int (wishL l : Nat)), vm, v11, v12, v13] ∧ Same H20 H' ∧ (vm = some .non ∨ ∃ w0, vm = some (.int ((wrapL w0 l).length : Nat)) ∧ (i ≤ nw → w0 < i)))
          ⟨_, _, _, _, _, rfl, Same.refl _, .inl rfl⟩ (fun i σ H' _ ⟨_, _, _, _, _, _, s, _⟩ => sqL (s _ _ g20)) ?_ ?_⟩
        · rintro i x σ H21 hx ⟨v7, vm, v11, v12, v13, rfl, s21, hvm⟩
          rw [List.map_map] at hx
          obtain ⟨w, hw, rfl⟩ := of_map hx
          have hi := (List.getElem?_eq_some_iff.mp hw).1
          rw [hWl] at hi
          have hwi : (i < nw ∧ w = i) ∨ (i = nw ∧ w = wishL l + fa) := by
            by_cases h : i < nw
            · rw [List.getElem?_append_left (by rw [List.length_range]; exact h), List.getElem?_range h] at hw
              exact .inl ⟨h, (Option.some.inj hw).symm⟩
            · have e : i = nw := by omega
              subst e
              rw [List.getElem?_append_right (by rw [List.length_range]; exact Nat.le_refl _), List.length_range, Nat.sub_self] at hw
              exact .inr ⟨rfl, (Option.some.inj hw).symm⟩
          have hfew : ∀ w0, (i ≤ nw → w0 < i) → (wrapL w l).length ≤ (wrapL w0 l).length := by
            intro w0 h0
            have h0 := h0 (by omega)
            rcases hwi with ⟨h1, h2⟩ | ⟨h1, h2⟩
            · exact wrap_fewer (by omega) l
            · rw [wrap_wish (by omega)]; exact wrap_parts w0 l
          have hwl := wrapL_len w l
          show gName 11 (.int (w : Int)) _ _ _
          dsimp only [gName]
          tm_at "rzs"
          intro pL H22 f22 s22 g22
          have g22 : H22 pL = some (.lst ((wrapL w l).map txV)) := g22
          dsimp only [gName]
          refine seq_key (M := fun σ H' => σ = [some (.ref a), some (.int z), some (.ref s), some (.int (fa : Int)), some (.str (sO l)), some (.ref pp), some (.ref q), v7, some (.int (longL l : Nat)), some (.int (wishL l : Nat)), vm, some (.int (w : Int)), some (.ref pL), v13] ∧ Same H22 H') ?_ (fun N2 hN2 => ?_)
          · rintro _ H23 ⟨rfl, s23⟩
            have g23 := s23 _ _ g22
            have s2023 := (s21.trans s22).trans s23
            have gz23 := s2023 _ _ gz20
            have hpl : (zs.map Prod.fst).length = (cut 10 l).length := by rw [List.length_map, lz]
            have hll : ((wrapL w l).map txV).length = (wrapL w l).length := List.length_map ..
            refine seq_key (M := fun σ H' => σ = [some (.ref a), some (.int z), some (.ref s), some (.int (fa : Int)), some (.str (sO l)), some (.ref pp), some (.ref q), v7, some (.int (longL l : Nat)), some (.int (wishL l : Nat)), vm, some (.int (w : Int)), some (.ref pL), v13] ∧ H23 = H') ?_ (fun N3 hN3 => ?_)
            · rintro _ _ ⟨rfl, rfl⟩
              refine seq_key (M := fun σ H' => σ = [some (.ref a), some (.int z), some (.ref s), some (.int (fa : Int)), some (.str (sO l)), some (.ref pp), some (.ref q), v7, some (.int (longL l : Nat)), some (.int (wishL l : Nat)), vm, some (.int (w : Int)), some (.ref pL), v13] ∧ H23 = H') ?_ (fun N4 hN4 => ?_)
              · rintro _ _ ⟨rfl, rfl⟩
                tm_at "rzs"
                refine ⟨v7, some (.int ((wrapL w l).length : Nat)), some (.int (w : Int)), some (.ref pL), v13, by rw [hll]; rfl, s2023, .inr ⟨w, rfl, fun h => ?_⟩⟩
                rcases hwi with ⟨h1, h2⟩ | ⟨h1, h2⟩ <;> omega
              · tm_at "rds"
                by_cases h1 : longL l ≤ w
                · refine iteT' (decide_eq_true (by omega)) ?_
                  tm_at "rds"
                  by_cases h2 : w < wishL l
                  · have hb := wrap_below h1 h2
                    refine iteT' (decide_eq_true (by omega)) ?_
                    tm_at "rds"
                    refine iteF' (decide_eq_false (by rw [hll, hpl]; omega)) ?_
                    exact hN4 _ _ ⟨rfl, rfl⟩
                  · refine iteF' (decide_eq_false (by omega)) ?_
                    exact hN4 _ _ ⟨rfl, rfl⟩
                · refine iteF' (decide_eq_false (by omega)) ?_
                  tm_at "rzs"
                  exact hN4 _ _ ⟨rfl, rfl⟩
            · tm_at "rds"
              by_cases h1 : wishL l ≤ w
              · refine iteT' (decide_eq_true (by omega)) ?_
                tm_at "rds"
                refine iteF' (by rw [hpl, hll, wrap_wish h1, decide_eq_true rfl]; rfl) ?_
                exact hN3 _ _ ⟨rfl, rfl⟩
              · refine iteF' (decide_eq_false (by omega)) ?_
                exact hN3 _ _ ⟨rfl, rfl⟩
          tm_at "rzs"
          refine ⟨pL, q, l, w, rfl, lo, g22, s22 _ _ (s21 _ _ g620), fun H23 s23 => ?_⟩
          have g23 := s23 _ _ g22
          rcases hvm with rfl | ⟨w0, rfl, h0⟩
          · tm_at "rzs"
            exact hN2 _ _ ⟨rfl, s23⟩
          · have hf := hfew w0 h0
            tm_at "rzs"
            refine iteF' (decide_eq_false (by rw [List.length_map]; omega)) ?_
            exact hN2 _ _ ⟨rfl, s23⟩
        · rintro σ H21 ⟨v7, vm, v11, v12, v13, rfl, s21, hvm⟩
          exact ⟨_, _, _, _, _, _, _, _, _, _, _, _, _, rfl, s21 _ _ q20'⟩
      · tm_at "rzs"
        refine ⟨⟨_, sqL gz⟩, for_list (K := K) (a := pp) (xs := zs.map Prod.fst) (fun i σ H' => ∃ (q : Addr) (v7 v8 v9 v10 v11 v12 v13 : Option V), σ = [some (.ref a), some (.int z), some (.ref s), some (.int (fa : Int)), some (.str (sO l)), some (.ref pp), some (.ref q), v7, v8, v9, v10, v11, v12, v13] ∧ Same H12 H' ∧ H' q = some (.lst ((((cut 10 l).take i).flatMap wordsL).map txV)))
          ⟨p12, _, _, _, _, _, _, _, rfl, Same.refl _, g12⟩ (fun i σ H' _ ⟨_, _, _, _, _, _, _, _, _, s, _⟩ => sqL (s _ _ gz)) ?_ ?_⟩
        · rintro i x σ H13 hx ⟨q, v7, v8, v9, v10, v11, v12, v13, rfl, s13, g13⟩
          obtain ⟨y, hy, rfl⟩ := of_map hx
          have my := List.mem_of_getElem? hy
          obtain ⟨b, eb, gb⟩ := (hzs y my).same s13
          obtain ⟨y1, y2⟩ := y
          subst eb
          have hyc : ((cut 10 l).map wordsL)[i]? = some y2 := by rw [← ezs, List.getElem?_map, hy]; rfl
          rw [List.getElem?_map] at hyc
          obtain ⟨c, hc, ec⟩ := Option.map_eq_some_iff.mp hyc
          have wy : (y2.map List.length).sum + y2.length ≤ 240 := hzw _ my
          have := hfc i
          dsimp only [gName]
          tm_at "rzs"
          refine ⟨_, _, _, _, rfl, rfl, g13, gb, by rw [List.length_map, List.length_map, sizeLine_eq]; show _ + y2.length ≤ _; omega, fun p14 H14 f14 s14 g14 => ?_⟩
          exact ⟨p14, _, _, _, _, _, _, _, rfl, s13.trans s14, by rw [g14, flat_take_succ _ hc, ec, List.map_append]⟩
        · rintro σ H13 ⟨q, v7, v8, v9, v10, v11, v12, v13, rfl, s13, g13⟩
          rw [List.length_map, lz, List.take_length] at g13
          exact hNN _ _ ⟨q, v7, v8, v9, v10, v11, v12, v13, rfl, s13, g13⟩
    · rintro σ H3 ⟨v1, v2, v3, v4, v5, v6, v7, v8, v9, v10, v11, v12, v13, rfl, q3⟩
      tm_at "rzs"
      exact k _
end
end My
namespace My
open PySem L2
theorem law_end {l : PySem.W.OpenLaw} {w : World} {K : PySem.W.Frag} {mg : Str → Option Value} {fa : Addr} (hfa : mg "law" = some (.ref fa)) (T : Tx K mg) :
    ∃ fd : FuncData, (∀ (s : Shared) (v : Value), BindsTo s fd ⟨[v], []⟩ [("_law_script", v)]) ∧ ∀ base : Heap, K.In base → base.Ns mainGlobals mg → FnOk l.prog w K mg base CX0 5 fa fd ["_law_script"] (sp_law K) := by
  have e := hfa.symm.trans T.d_law.g
  cases e
  refine ⟨T.d_law.fd, fun s v => ?_, fun base _ _ => ok_law T⟩
  obtain ⟨oc, od, kV, doc, pm, an, cdv, ct, osl, e, _, _⟩ := T.d_law.F.ex
  rw [e]
  exact .of_eq rfl
end My
open PySem PySem.W PyProof.Rows
set_option maxRecDepth 100000 in
set_option maxHeartbeats 0 in
theorem PySem.Challenge.cw_nestlaid_k14_whole_wider_and_wider_holds : PySem.Challenge.rw_nestlaid_k14_whole_wider_and_wider.Holds := by
  w_on; o_law; k_head; (case hw => w_witness2)
  k_fill
  refine L2.walk_of (l := PySem.Challenge.rw_nestlaid_k14_whole_wider_and_wider) (n := 63) (k := 5) (x := "_law_script") (CX := fun _ => L2.CX0) (sp := fun w => My.sp_law _) rfl (by decide) rfl ⟨rfl, by decide, by decide⟩ (fun w h Y => PySem.W.kIn_of Y) ?F (fun _ _ a ns hl _ hS => ⟨a, ns, rfl, hS, hl, fun _ => rfl⟩) (fun _ _ _ _ _ h => h)
  case F =>
    intro w mg fa h KX G hmg
    refine' My.law_end hmg { d_is_whole := My.df_mk KX G ?a1 ?l1 ?c1 ?k1 (fun _ _ _ _ _ _ us hl => match us, hl with | [_], _ => rfl), d_is_from_nought := My.df_mk KX G ?a2 ?l2 ?c2 ?k2 (fun _ _ _ _ _ _ us hl => match us, hl with | [_], _ => rfl), d_words_in := My.df_mk KX G ?a3 ?l3 ?c3 ?k3 (fun _ _ _ _ _ _ us hl => match us, hl with | [_], _ => rfl), d_check_text := My.df_mk KX G ?a4 ?l4 ?c4 ?k4 (fun _ _ _ _ _ _ us hl => match us, hl with | [_], _ => rfl), d_lines_of := My.df_mk KX G ?a5 ?l5 ?c5 ?k5 (fun _ _ _ _ _ _ us hl => match us, hl with | [_, _], _ => rfl), d_wrapped_in := My.df_mk KX G ?a6 ?l6 ?c6 ?k6 (fun _ _ _ _ _ _ us hl => match us, hl with | [_, _], _ => rfl), d_wrapped := My.df_mk KX G ?a7 ?l7 ?c7 ?k7 (fun _ _ _ _ _ _ us hl => match us, hl with | [_, _], _ => rfl), d_w_cell_at := My.df_mk KX G ?a8 ?l8 ?c8 ?k8 (fun _ _ _ _ _ _ us hl => match us, hl with | [_, _], _ => rfl), d_w_mixed := My.df_mk KX G ?a9 ?l9 ?c9 ?k9 (fun _ _ _ _ _ _ us hl => match us, hl with | [_, _], _ => rfl), d_w_source := My.df_mk KX G ?a10 ?l10 ?c10 ?k10 (fun _ _ _ _ _ _ us hl => match us, hl with | [_], _ => rfl), d_w_next := My.df_mk KX G ?a11 ?l11 ?c11 ?k11 (fun _ _ _ _ _ _ us hl => match us, hl with | [_, _], _ => rfl), d_w_word := My.df_mk KX G ?a12 ?l12 ?c12 ?k12 (fun _ _ _ _ _ _ us hl => match us, hl with | [_], _ => rfl), d_w_text := My.df_mk KX G ?a13 ?l13 ?c13 ?k13 (fun _ _ _ _ _ _ us hl => match us, hl with | [_, _], _ => rfl), d_w_words := My.df_mk KX G ?a14 ?l14 ?c14 ?k14 (fun _ _ _ _ _ _ us hl => match us, hl with | [_], _ => rfl), d_w_lines_right := My.df_mk KX G ?a15 ?l15 ?c15 ?k15 (fun _ _ _ _ _ _ us hl => match us, hl with | [_, _, _, _], _ => rfl), d_law := My.df_mk KX G ?a16 ?l16 ?c16 ?k16 (fun _ _ _ _ _ _ us hl => match us, hl with | [_], _ => rfl), b_bool := PySem.W.mg_none_of KX G ?z_bool, b_int := PySem.W.mg_none_of KX G ?z_int, b_isinstance := PySem.W.mg_none_of KX G ?z_isinstance, b_len := PySem.W.mg_none_of KX G ?z_len, b_list := PySem.W.mg_none_of KX G ?z_list, b_max := PySem.W.mg_none_of KX G ?z_max, b_min := PySem.W.mg_none_of KX G ?z_min, b_range := PySem.W.mg_none_of KX G ?z_range, b_str := PySem.W.mg_none_of KX G ?z_str }
    (case a1 => k_is)
    (case l1 => k_is)
    (case c1 => k_is)
    (case k1 => k_is)
    (case a2 => k_is)
    (case l2 => k_is)
    (case c2 => k_is)
    (case k2 => k_is)
    (case a3 => k_is)
    (case l3 => k_is)
    (case c3 => k_is)
    (case k3 => k_is)
    (case a4 => k_is)
    (case l4 => k_is)
    (case c4 => k_is)
    (case k4 => k_is)
    (case a5 => k_is)
    (case l5 => k_is)
    (case c5 => k_is)
    (case k5 => k_is)
    (case a6 => k_is)
    (case l6 => k_is)
    (case c6 => k_is)
    (case k6 => k_is)
    (case a7 => k_is)
    (case l7 => k_is)
    (case c7 => k_is)
    (case k7 => k_is)
    (case a8 => k_is)
    (case l8 => k_is)
    (case c8 => k_is)
    (case k8 => k_is)
    (case a9 => k_is)
    (case l9 => k_is)
    (case c9 => k_is)
    (case k9 => k_is)
    (case a10 => k_is)
    (case l10 => k_is)
    (case c10 => k_is)
    (case k10 => k_is)
    (case a11 => k_is)
    (case l11 => k_is)
    (case c11 => k_is)
    (case k11 => k_is)
    (case a12 => k_is)
    (case l12 => k_is)
    (case c12 => k_is)
    (case k12 => k_is)
    (case a13 => k_is)
    (case l13 => k_is)
    (case c13 => k_is)
    (case k13 => k_is)
    (case a14 => k_is)
    (case l14 => k_is)
    (case c14 => k_is)
    (case k14 => k_is)
    (case a15 => k_is)
    (case l15 => k_is)
    (case c15 => k_is)
    (case k15 => k_is)
    (case a16 => k_is)
    (case l16 => k_is)
    (case c16 => k_is)
    (case k16 => k_is)
    (case z_bool => k_is)
    (case z_int => k_is)
    (case z_isinstance => k_is)
    (case z_len => k_is)
    (case z_list => k_is)
    (case z_max => k_is)
    (case z_min => k_is)
    (case z_range => k_is)
    (case z_str => k_is)
#print axioms PySem.Challenge.cw_nestlaid_k14_whole_wider_and_wider_holds
