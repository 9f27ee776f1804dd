import PyProof.Rows.All
import Wide.All
import OpenK.AllK
import Wide.FinOn
import HandS.ForMost
import HandS.ForExc
import HandS.Wide
import HandS.IsInst
import HandS.Defaults
import HandS.MakeKwOnly
import HandS.Flow
import HandS.EndBits
import HandS.Style
import HandS.Conv
import HandS.Deep
import PySem.Challenge.RW_nestlaid_k07_whole_one_level_from_both_s
set_option Elab.async false
set_option linter.all false
set_option maxRecDepth 100000
set_option maxHeartbeats 4000000
namespace My
open PySem PySem.Spec PyProof.Rows L2
/-! ### a def of the top, with its facts -/
structure Df (K : PySem.W.Frag) (mg : Str → Option Value) (x : Str) (st : Stmt) (ps : List Str) where
  f : Addr
  fd : FuncData
  F : Fun K x x st f fd
  b : Binds K fd ps []
  g : mg x = some (.ref f)
def df_mk {K : PySem.W.Frag} {mg : Str → Option Value} {x : Str} {st : Stmt} {ps : List Str} {h : Heap} (X : K.In h) (G : h.Ns mainGlobals mg) {f : Addr} {oc : Value} {od an : Option Addr} {osl : Array (Option Value)} {kV doc pm cdv ct : Value}
    (a : PySem.W.nsIn K mainGlobals x = some (some (.ref f))) (l : K.lookup f = some ⟨oc, od, .func (PySem.W.fnOf x x (defArgs st) (defBody st) (defScope st) .none kV doc pm an cdv ct), osl⟩)
    (c : PySem.W.codeIn K cdv x = true) (k : PySem.W.keepIn K (.ref f) = true)
    (hb : ∀ (kV doc pm : Value) (an : Option Addr) (cdv ct : Value) (us : List Value), us.length = ps.length → bindArgs (PySem.W.fnOf x x (defArgs st) (defBody st) (defScope st) .none kV doc pm an cdv ct) ⟨us, []⟩ = pure (ps.zip us)) : Df K mg x st ps :=
  ⟨f, _, fun_mk l c k, (fun_mk l c k).binds hb, PySem.W.mg_of X G a⟩
/-! ### calls by keywords alone -/
theorem vals_getD : ∀ {zs : List V} {ws : List Value}, Vals zs ws → ∀ i : Nat, RelV (zs.getD i .non) (ws.getD i .none)
  | _, _, .nil, i => rfl
  | _, _, .cons r t, 0 => r
  | _, _, .cons r t, i + 1 => by simpa using vals_getD t i
section
variable {X : Cx} {CX : CXT} {k n : Nat} {f C : Addr} {fd : FuncData} {ps ks : List Str} {sp : Sp} {E : XK} {x : Str} {p pos : Pos} {kws : List Keyword} {t tk : TA} {g : List Value → List Value → List Value} {gV : List V → List V → List V}
/-- f(k = v, ..) -/
theorem pe_callN0 (F : FnOk X.prog X.w X.K X.mg X.base CX k f fd ps sp) (hr : Room k X.A) (hg : Gl X x) (hm : X.mg x = some (.ref f)) (hk : PySem.W.keepIn X.K (.ref f) = true) (hb : KBn X.K fd ps 0 ks g gV) (hx : Passes CX X E) (hkw : PK X kws tk)
    (hall : (backToKw pos (keywordEach kws X.env)).all (·.1.isSome) = true := by rfl) (hks : (backToKw pos (keywordEach kws X.env)).filterMap (·.1) = ks := by rfl) (hdb : (x == ("__debug__" : Str)) = false := by decide)
    (hpl : ((backTo pos (starEach [] X.env)).any (·.1) || (backToKw pos (keywordEach kws X.env)).any (·.1.isNone)) = false := by rfl) :
    PE X (.Call (.Name x p) [] kws pos) (tCallN 0 ks.length sp gV E tNil tk) := by
  refine ⟨fun pins s σ H Q I h => ?_⟩
  refine wpAny_Call_Name_kw (ld_glob I hg hm ?_ hdb)
  refine PySem.W.callWith_KW0 (h₀ := X.base) I.ok.mod.kin hk hall ?_ hpl
  refine thn (hkw.run pos pins s σ H _ I h) fun ws s2 ⟨zs, H2, I2, rz, l1, l2, q2⟩ => ⟨I2.kIn, ?_⟩
  rw [hks]
  exact run_fnN (us := []) (vs := []) F hr hb hx I2 .nil rz rfl l2 q2
end
/-! ### heaps -/
/-- all that was tracked but at a is as it was -/
def But (a : Addr) (H H' : Hp) : Prop := ∀ b o, b ≠ a → H b = some o → H' b = some o
theorem But.app {a b : Addr} {H H' : Hp} {o : HO} (s : But a H H') (n : b ≠ a) (h : H b = some o) : H' b = some o := s _ _ n h
theorem But.refl {a : Addr} {H : Hp} : But a H H := fun _ _ _ h => h
theorem But.trans {a : Addr} {H H1 H2 : Hp} (s : But a H H1) (t : But a H1 H2) : But a H H2 := fun b o n h => t b o n (s b o n h)
theorem But.upd {a : Addr} {H H1 : Hp} {o : HO} (s : But a H H1) : But a H (upd H1 a o) := fun b u n h => by
  rw [upd_ne n]
  exact s b u n h
theorem But.new {a p : Addr} {H H1 : Hp} {o : HO} (s : But a H H1) (h : H1 p = none) : But a H (L2.upd H1 p o) := fun b u n e => by
  have e1 := s b u n e
  rw [upd_ne (ne_of_none e1 h)]
  exact e1
theorem Same.but {a : Addr} {H H1 : Hp} (s : Same H H1) : But a H H1 := fun b u n h => s b u h
theorem Same.app {b : Addr} {H H' : Hp} {o : HO} (s : Same H H') (h : H b = some o) : H' b = some o := s _ _ h
theorem Same.new {H H1 : Hp} {p : Addr} {o : HO} (s : Same H H1) (h : H1 p = none) : Same H (upd H1 p o) := fun b u e => by
  have e1 := s b u e
  rw [upd_ne (ne_of_none e1 h)]
  exact e1
theorem Same.mut {H H1 : Hp} {p : Addr} {o : HO} (s : Same H H1) (h : H p = none) : Same H (upd H1 p o) := fun b u e => by
  rw [upd_ne (ne_of_none e h)]
  exact s b u e
theorem But.seq {K : PySem.W.Frag} {H H' : Hp} {a b : Addr} {xs : List V} (e : But a H H') (n : b ≠ a) (h : SqL K H b xs) : SqL K H' b xs := by
  rcases h with (h | ⟨o, h⟩) | h
  · exact .inl (.inl (e _ _ n h))
  · exact .inl (.inr ⟨o, e _ _ n h⟩)
  · exact .inr h
theorem upd_keep {H : Hp} {a p : Addr} {o u : HO} (n : H p = none) (h : H a = some o) : upd H p u a = some o := (upd_ne (ne_of_none h n)).trans h
theorem Same.upd0 {H : Hp} {p : Addr} {o : HO} (n : H p = none) : Same H (upd H p o) := fun b u e => upd_keep n e
theorem sqL {K : PySem.W.Frag} {H : Hp} {a : Addr} {xs : List V} (h : H a = some (.lst xs)) : SqL K H a xs := .inl (.inl h)
theorem sqT {K : PySem.W.Frag} {H : Hp} {a : Addr} {xs : List V} (h : H a = some (.tup xs)) : SqT K H a xs := .inl (.inl h)
/-! ### new and changed objects, the heap behind them by a name -/
def New (H : Hp) (o : HO) (Q : VK) : Prop := ∀ p H', H p = none → Same H H' → H' p = some o → Q (.ref p) H'
theorem New.go {H : Hp} {o : HO} {Q : VK} (h : New H o Q) : ∀ p, H p = none → Q (.ref p) (upd H p o) := fun p n => h p _ n (Same.upd0 n) upd_same
/-- what stands at l becomes o -/
def Set1 (H : Hp) (l : Addr) (o : HO) (q : Hp → Prop) : Prop := ∀ H', But l H H' → H' l = some o → q H'
theorem Set1.go {H : Hp} {l : Addr} {o : HO} {q : Hp → Prop} (h : Set1 H l o q) : q (upd H l o) := h _ But.refl.upd upd_same
theorem pe_imp {X : Cx} {e : Expr} {t t' : TE} (h : PE X e t) (i : ∀ σ H Q, t' σ H Q → t σ H Q) : PE X e t' := ⟨fun pins s σ H Q I h' => h.run pins s σ H Q I (i _ _ _ h')⟩
theorem opR_imp {X : Cx} {f : Value → Value → Sem Value} {r r' : R2} (h : OpR X f r) (i : ∀ x y H Q, r' x y H Q → r x y H Q) : OpR X f r' := fun pins s σ H x y v u Q I rx ry q => h pins s σ H x y v u Q I rx ry (i _ _ _ _ q)
theorem callR_imp {X : Cx} {f : Value} {r r' : List V → Hp → VK → Prop} (h : CallR X f r) (i : ∀ xs H Q, r' xs H Q → r xs H Q) : CallR X f r' := fun pins s σ H xs us Q I rx q => h pins s σ H xs us Q I rx (i _ _ _ q)
theorem slR_imp {X : Cx} {r r' : V → Option Int → Option Int → Hp → VK → Prop} (h : SlR X r) (i : ∀ x lo hi H Q, r' x lo hi H Q → r x lo hi H Q) : SlR X r' := fun pins s σ H x v vl vu lo hi sl Q I rx a b c q => h pins s σ H x v vl vu lo hi sl Q I rx a b c (i _ _ _ _ _ q)
theorem mtM_imp {X : Cx} {id : String} {r r' : V → List V → Hp → VK → Prop} (h : MtM X id r) (i : ∀ x xs H Q, r' x xs H Q → r x xs H Q) : MtM X id r' := fun pins s σ H x xs v us Q I rx rv q => h pins s σ H x xs v us Q I rx rv (i _ _ _ _ q)
theorem pSet_imp {X : Cx} {r r' : TSet} (h : PSet X r) (i : ∀ x y z H Q, r' x y z H Q → r x y z H Q) : PSet X r' := fun pins s σ H o i' v ov iv u Q I a b c q => h pins s σ H o i' v ov iv u Q I a b c (i _ _ _ _ _ q)
section
variable {X : Cx} {es : List Expr} {t : TA} {pos : Pos}
/-- a tuple, a list -/
def tTupA (t : TA) : TE := fun σ H Q => t σ H fun xs H1 => xs.length ≤ sizeLine ∧ New H1 (.tup xs) Q
def tLstA (t : TA) : TE := fun σ H Q => t σ H fun xs H1 => xs.length ≤ sizeLine ∧ New H1 (.lst xs) Q
theorem pe_tupA {x1} (h : PA X es t) : PE X (.Tuple es x1 pos) (tTupA t) := by
  refine ⟨fun pins s σ H Q I hq => ?_⟩
  refine wpAny_Tuple_spliced (thn (h.run pos pins s σ H _ I hq) fun us s1 ⟨xs, H1, I1, r, z, q⟩ => ⟨by rw [← r.length]; exact z, ?_⟩)
  have hf : H1 s1.heap.objs.size = none := I1.hok.fresh (Nat.le_refl _)
  refine ⟨.ref s1.heap.objs.size, upd H1 s1.heap.objs.size (.tup xs), I1.laid (t' := s1.toks) (fun b u e => Heap.get?_push_of_some _ e) (Nat.le_refl _) ?_, rfl, q.go _ hf⟩
  exact ⟨z, us, r, ⟨_, Heap.get?_push_size _ rfl, rfl, _, rfl⟩⟩
theorem pe_lstA (h : PA X es t) : PE X (.List es pos) (tLstA t) := by
  refine ⟨fun pins s σ H Q I hq => ?_⟩
  refine wpAny_List_spliced (thn (h.run pos pins s σ H _ I hq) fun us s1 ⟨xs, H1, I1, r, z, q⟩ => ⟨by rw [← r.length]; exact z, ?_⟩)
  have hf : H1 s1.heap.objs.size = none := I1.hok.fresh (Nat.le_refl _)
  refine ⟨.ref s1.heap.objs.size, upd H1 s1.heap.objs.size (.lst xs), I1.laid (t' := s1.toks) (fun b u e => Heap.get?_push_of_some _ e) (Nat.le_refl _) ?_, rfl, q.go _ hf⟩
  exact ⟨z, us, 0, r, Heap.get?_push_size _ rfl⟩
def tDNewA : TE := fun _ H Q => New H (.dK []) Q
theorem pe_dnewA : PE X (.Dict [] [] pos) tDNewA := pe_imp pe_dnewK fun _ _ _ h => h.go
/-- list + list, list * n -/
def rCatA (K : PySem.W.Frag) : R2 := fun x y H Q => ∃ l b xs zs, x = .ref l ∧ y = .ref b ∧ H l = some (.lst xs) ∧ H b = some (.lst zs) ∧ xs.length + zs.length ≤ sizeLine ∧ New H (.lst (xs ++ zs)) Q
theorem op_catA : OpR X (binaryOp .Add) (rCatA X.K) := opR_imp op_cat fun _ _ _ _ ⟨l, b, xs, zs, e1, e2, h1, h2, z, q⟩ => ⟨l, b, xs, zs, e1, e2, h1, h2, z, q.go⟩
def rRepA : R2 := fun x y H Q => ∃ l k xs, x = .ref l ∧ y = .int k ∧ H l = some (.lst xs) ∧ -(2 ^ 63) ≤ k ∧ k < 2 ^ 63 ∧ xs.length * k.toNat ≤ sizeLine ∧ New H (.lst (List.replicate k.toNat xs).flatten) Q
theorem op_repA : OpR X (binaryOp .Mult) rRepA := opR_imp op_rep fun _ _ _ _ ⟨l, k, xs, e1, e2, h1, h2, h3, z, q⟩ => ⟨l, k, xs, e1, e2, h1, h2, h3, z, q.go⟩
def rSlA (K : PySem.W.Frag) : V → Option Int → Option Int → Hp → VK → Prop := fun x lo hi H Q => ∃ a xs, x = .ref a ∧ SqL K H a xs ∧ New H (.lst (cutV xs lo hi)) Q
theorem sl_listA : SlR X (rSlA X.K) := slR_imp sl_list fun _ _ _ _ _ ⟨a, xs, e, h1, q⟩ => ⟨a, xs, e, h1, q.go⟩
def rListA (K : PySem.W.Frag) : List V → Hp → VK → Prop := fun xs H Q => ∃ p ys, xs = [.ref p] ∧ (SqL K H p ys ∨ SqT K H p ys) ∧ New H (.lst ys) Q
theorem call_listA : CallR X (.type "list") (rListA X.K) := callR_imp call_list_of fun _ _ _ ⟨p, ys, e, h, q⟩ => ⟨p, ys, e, h, q.go⟩
/-- tuple(a list) -/
def rTupLA (K : PySem.W.Frag) : List V → Hp → VK → Prop := fun xs H Q => ∃ p ys, xs = [.ref p] ∧ SqL K H p ys ∧ New H (.tup ys) Q
theorem call_tupLA : CallR X (.type "tuple") (rTupLA X.K) := callR_imp call_tuple_of fun _ _ _ ⟨p, ys, e, h, q⟩ => ⟨p, ys, e, .inl ⟨h, q.go⟩⟩
def rSetA : V → V → V → Hp → (Hp → Prop) → Prop := fun o i v H Q => ∃ p xs k j, o = .ref p ∧ i = .int k ∧ H p = some (.lst xs) ∧ ixN xs.length k = some j ∧ Set1 H p (.lst (xs.set j v)) Q
theorem set_listA : PSet X rSetA := pSet_imp set_list fun _ _ _ _ _ ⟨p, xs, k, j, e1, e2, h1, h2, q⟩ => ⟨p, xs, k, j, e1, e2, h1, h2, q.go⟩
def rAppendA : V → List V → Hp → VK → Prop := fun x vs H Q => ∃ l xs y, x = .ref l ∧ vs = [y] ∧ H l = some (.lst xs) ∧ xs.length < sizeLine ∧ Set1 H l (.lst (xs ++ [y])) (Q .non)
def rClearA : V → List V → Hp → VK → Prop := fun x vs H Q => ∃ l xs, x = .ref l ∧ vs = [] ∧ H l = some (.lst xs) ∧ Set1 H l (.lst []) (Q .non)
theorem mt_clearA : MtM X "list.clear" rClearA := mtM_imp mt_clear fun _ _ _ _ ⟨l, xs, e1, e2, h1, q⟩ => ⟨l, xs, e1, e2, h1, q.go⟩
theorem mt_appendA : MtM X "list.append" rAppendA := mtM_imp mt_append fun _ _ _ _ ⟨l, xs, y, e1, e2, h1, h2, q⟩ => ⟨l, xs, y, e1, e2, h1, h2, q.go⟩
end
theorem cutV_mem {xs : List V} {lo hi : Option Int} {x : V} (h : x ∈ cutV xs lo hi) : x ∈ xs := List.mem_of_mem_drop (List.mem_of_mem_take h)
theorem int_of_map {ns : List Int} {i : Nat} {y : V} (h : (ns.map V.int)[i]? = some y) : ∃ z, ns[i]? = some z ∧ y = .int z := by
  rw [List.getElem?_map] at h
  cases e : ns[i]? with
  | none => rw [e] at h; cases h
  | some z => rw [e] at h; exact ⟨z, rfl, (Option.some.inj h).symm⟩
/-- the law's numbers: the first one (0 without), and some more -/
theorem cells_ints {c : Int} {ns : List Int} {lo hi : Option Int} {i : Nat} {y : V} (h : ([V.int c] ++ cutV (ns.map V.int) lo hi)[i]? = some y) : ∃ z, y = .int z := by
  have m := List.mem_of_getElem? h
  rcases List.mem_append.mp m with m | m
  · exact ⟨c, by simpa using m⟩
  · have m2 := cutV_mem m
    obtain ⟨z, _, e⟩ := List.mem_map.mp m2
    exact ⟨z, e.symm⟩
theorem cells_len {ns : List Int} {lo hi : Option Int} (h : ns.length ≤ 63) : ([V.int 0] : List V).length + (cutV (ns.map V.int) lo hi).length ≤ sizeLine := by
  have h1 := cutV_length (ns.map V.int) lo hi
  rw [List.length_map] at h1
  exact Nat.le_trans (by show 1 + _ ≤ 100; omega) (by decide)
/-! ### kinds -/
def isI : V → Bool
  | .int _ => true
  | _ => false
def isN : V → Bool
  | .int i => decide (0 ≤ i)
  | _ => false
def isB : V → Bool
  | .bl _ => true
  | _ => false
/-- a value of one of the plain kinds -/
inductive Ty7 (H : Hp) : V → String → Prop where
  | non : Ty7 H .non "NoneType"
  | bl (b : Bool) : Ty7 H (.bl b) "bool"
  | int (i : Int) : Ty7 H (.int i) "int"
  | str (x : Str) : Ty7 H (.str x) "str"
  | lst {a : Addr} {xs : List V} (h : H a = some (.lst xs)) : Ty7 H (.ref a) "list"
  | tup {a : Addr} {xs : List V} (h : H a = some (.tup xs)) : Ty7 H (.ref a) "tuple"
  | dK {a : Addr} {xs : List (Key × V)} (h : H a = some (.dK xs)) : Ty7 H (.ref a) "dict"
section
variable {K : PySem.W.Frag} {H H' : Hp} {x : V} {t : String}
theorem Ty7.tx (h : Ty7 H x t) : TyX K H x (.type t) := by
  cases h with
  | non => exact .base .non
  | bl b => exact .base (.bl b)
  | int i => exact .base (.int i)
  | str i => exact .base (.str i)
  | lst h => exact .base (.lst h)
  | tup h => exact .base (.tup h)
  | dK h => exact .base (.dK h)
theorem Ty7.ki (h : Ty7 H x t) : kitB t "int" = some (isI x || isB x) := by
  cases h <;> (simp only [isI, isB]; decide +kernel)
theorem Ty7.kb (h : Ty7 H x t) : kitB t "bool" = some (isB x) := by
  cases h <;> (simp only [isB]; decide +kernel)
theorem Ty7.kl (h : Ty7 H x t) : kitB t "list" = some (decide (t = "list")) := by
  cases h <;> decide +kernel
theorem Ty7.kt (h : Ty7 H x t) : kitB t "tuple" = some (decide (t = "tuple")) := by
  cases h <;> decide +kernel
theorem Ty7.ks (h : Ty7 H x t) : kitB t "str" = some (decide (t = "str")) := by
  cases h <;> decide +kernel
theorem Ty7.mono (h : Ty7 H x t) (s : Same H H') : Ty7 H' x t := by
  cases h with
  | non => exact .non
  | bl b => exact .bl b
  | int i => exact .int i
  | str i => exact .str i
  | lst h => exact .lst (s _ _ h)
  | tup h => exact .tup (s _ _ h)
  | dK h => exact .dK (s _ _ h)
end
theorem isI_of : ∀ {x : V}, isI x = true → ∃ i, x = .int i
  | .int i, _ => ⟨i, rfl⟩
theorem isI_bool {x : V} (h : (isI x || isB x) = true) : (!isB x) = isI x := by
  cases x <;> simp_all [isI, isB]
theorem isI_no {x : V} (h : ¬ (isI x || isB x) = true) : false = isI x := by
  cases x <;> simp_all [isI, isB]
def heldM (n l : Int) (m : Option Int) : Int := max (match m with | some m => min n m | none => n) l
def optI : Option Int → V
  | some i => .int i
  | none => .non
/-- the law's source of draws: three whole numbers -/
def src (s : Int × Int × Int) : HO := .lst [.int s.1, .int s.2.1, .int s.2.2]
/-! ### draws: only the source at a changes -/
def Src (H : Hp) (a : Addr) : Prop := ∃ s, H a = some (src s)
structure Dr (a : Addr) (H H' : Hp) : Prop where
  s : Src H' a
  b : But a H H'
theorem Dr.app {a b : Addr} {H H' : Hp} {o : HO} (d : Dr a H H') (n : b ≠ a) (h : H b = some o) : H' b = some o := d.b _ _ n h
theorem Dr.trans {a : Addr} {H H1 H2 : Hp} (d : Dr a H H1) (e : Dr a H1 H2) : Dr a H H2 := ⟨e.s, d.b.trans e.b⟩
theorem Dr.same {a : Addr} {H H1 H2 : Hp} (d : Dr a H H1) (e : Same H1 H2) : Dr a H H2 := ⟨let ⟨s, h⟩ := d.s; ⟨s, e _ _ h⟩, d.b.trans (Same.but e)⟩
theorem Dr.of {a : Addr} {H H1 : Hp} (h : Src H a) (e : Same H H1) : Dr a H H1 := ⟨let ⟨s, h⟩ := h; ⟨s, e _ _ h⟩, Same.but e⟩
theorem Dr.refl {a : Addr} {H : Hp} (h : Src H a) : Dr a H H := ⟨h, But.refl⟩
/-- a list that was not there may change -/
theorem Dr.mut {a l : Addr} {H H1 H2 : Hp} (d : Dr a H H1) (e : But l H1 H2) (n : H l = none) (na : a ≠ l) : Dr a H H2 :=
  ⟨let ⟨s, h⟩ := d.s; ⟨s, e _ _ na h⟩, fun b o nb h => e _ _ (ne_of_none h n) (d.b _ _ nb h)⟩
theorem Same.mut' {l : Addr} {H H1 H2 : Hp} (d : Same H H1) (e : But l H1 H2) (n : H l = none) : Same H H2 := fun b o h => e _ _ (ne_of_none h n) (d _ _ h)
theorem Src.same {a : Addr} {H H1 : Hp} (h : Src H a) (e : Same H H1) : Src H1 a := let ⟨s, h⟩ := h; ⟨s, e _ _ h⟩
theorem Src.but {a l : Addr} {H H1 : Hp} (h : Src H a) (e : But l H H1) (n : a ≠ l) : Src H1 a := let ⟨s, h⟩ := h; ⟨s, e _ _ n h⟩
theorem Src.ne {a p : Addr} {H : Hp} (h : Src H a) (n : H p = none) : p ≠ a := let ⟨_, h⟩ := h; (ne_of_none h n).symm
theorem Src.of {a : Addr} {H : Hp} {s : Int × Int × Int} (h : H a = some (src s)) : Src H a := ⟨s, h⟩
theorem Dr.free {a l : Addr} {H H' : Hp} (d : Dr a H H') (h : H' l = none) (n : l ≠ a) : H l = none := by
  cases q : H l with
  | none => rfl
  | some o => rw [d.b _ _ n q] at h; cases h
theorem Dr.seq {K : PySem.W.Frag} {H H' : Hp} {a b : Addr} {xs : List V} (e : Dr a H H') (n : b ≠ a) (h : SqL K H b xs) : SqL K H' b xs := e.b.seq n h
/-! ### comprehensions: P by the turn, the items so far, the heap; the item's end by a continuation of any kind -/
section
variable {K : PySem.W.Frag} {a b : Addr} {xs zs : List V} {g : TG} {tt : TT} {te : TE} {vs : List Nat} {σ : L2.St} {H1 : Hp} {D : Addr} {Qd : Hp → Prop}
/-- what an item's turn is to end in -/
abbrev LcT (g : TG) (tt : TT) (te : TE) (vs : List Nat) (σ : L2.St) (x : V) (H : Hp) (Kt : V → Hp → Prop) (Kf : Hp → Prop) : Prop :=
  g x (wipe σ vs) H fun σ2 H2 => wipe σ2 vs = wipe σ vs ∧ tt σ2 H2 fun b H3 => if b = true then te σ2 H3 Kt else Kf H3
/-- the ends of a turn -/
structure LcK (D : Addr) (P : List V → Hp → Prop) (acc : List V) (Kt : V → Hp → Prop) (Kf : Hp → Prop) : Prop where
  yes : ∀ y H4, H4 D = some (.lst acc) → acc.length < sizeLine → (∀ H5, But D H4 H5 → H5 D = some (.lst (acc ++ [y])) → P (acc ++ [y]) H5) → Kt y H4
  no : ∀ H3, H3 D = some (.lst acc) → P acc H3 → Kf H3
theorem lcL (P : Nat → List V → Hp → Prop) (h0 : ∀ H', Same H1 H' → H' D = some (.lst []) → P 0 [] H') (hD : H1 D = none) (hl : ∀ i acc H, P i acc H → SqL K H a xs)
    (hs : ∀ i x acc H Kt Kf, xs[i]? = some x → P i acc H → H D = some (.lst acc) → LcK D (P (i + 1)) acc Kt Kf → LcT g tt te vs σ x H Kt Kf)
    (hd : ∀ acc H, P xs.length acc H → H D = some (.lst acc) → Qd H) :
    ∃ W : Nat → Nat → Hp → Prop, (∃ m, W 0 m (upd H1 D (.lst []))) ∧ ∀ i m H, W i m H →
      ((Itl K a).stop i H ∧ Qd H) ∨ ((Itl K a).go i H ∧ ∃ Nx : Hp → Prop, (∀ H', Nx H' → ∃ m', m' < m ∧ W (i + 1) m' H') ∧ ∀ x H', (Itl K a).yld i H x H' → g x (wipe σ vs) H' fun σ2 H2 => wipe σ2 vs = wipe σ vs ∧ tt σ2 H2 fun b H3 =>
        if b = true then te σ2 H3 fun y H4 => ∃ acc, H4 D = some (.lst acc) ∧ acc.length < sizeLine ∧ Nx (upd H4 D (.lst (acc ++ [y]))) else Nx H3) :=
  lc_list (xs := xs) (fun i H => ∃ acc, H D = some (.lst acc) ∧ P i acc H) ⟨[], upd_same, h0 _ (Same.upd0 hD) upd_same⟩ (fun i H _ ⟨acc, _, p⟩ => hl i acc H p)
    (fun i x H hx ⟨acc, e, p⟩ => hs i x acc H _ _ hx p e ⟨fun y H4 e4 z k => ⟨acc, e4, z, acc ++ [y], upd_same, k _ But.refl.upd upd_same⟩, fun H3 e3 k => ⟨acc, e3, k⟩⟩) (fun H ⟨acc, e, p⟩ => hd acc H p e)
theorem lcT (P : Nat → List V → Hp → Prop) (h0 : ∀ H', Same H1 H' → H' D = some (.lst []) → P 0 [] H') (hD : H1 D = none) (hl : ∀ i acc H, P i acc H → SqT K H a xs)
    (hs : ∀ i x acc H Kt Kf, xs[i]? = some x → P i acc H → H D = some (.lst acc) → LcK D (P (i + 1)) acc Kt Kf → LcT g tt te vs σ x H Kt Kf)
    (hd : ∀ acc H, P xs.length acc H → H D = some (.lst acc) → Qd H) :
    ∃ W : Nat → Nat → Hp → Prop, (∃ m, W 0 m (upd H1 D (.lst []))) ∧ ∀ i m H, W i m H →
      ((Itt K a).stop i H ∧ Qd H) ∨ ((Itt K a).go i H ∧ ∃ Nx : Hp → Prop, (∀ H', Nx H' → ∃ m', m' < m ∧ W (i + 1) m' H') ∧ ∀ x H', (Itt K a).yld i H x H' → g x (wipe σ vs) H' fun σ2 H2 => wipe σ2 vs = wipe σ vs ∧ tt σ2 H2 fun b H3 =>
        if b = true then te σ2 H3 fun y H4 => ∃ acc, H4 D = some (.lst acc) ∧ acc.length < sizeLine ∧ Nx (upd H4 D (.lst (acc ++ [y]))) else Nx H3) :=
  lc_tup (xs := xs) (fun i H => ∃ acc, H D = some (.lst acc) ∧ P i acc H) ⟨[], upd_same, h0 _ (Same.upd0 hD) upd_same⟩ (fun i H _ ⟨acc, _, p⟩ => hl i acc H p)
    (fun i x H hx ⟨acc, e, p⟩ => hs i x acc H _ _ hx p e ⟨fun y H4 e4 z k => ⟨acc, e4, z, acc ++ [y], upd_same, k _ But.refl.upd upd_same⟩, fun H3 e3 k => ⟨acc, e3, k⟩⟩) (fun H ⟨acc, e, p⟩ => hd acc H p e)
theorem lcR {lo : Int} {n : Nat} (P : Nat → List V → Hp → Prop) (h0 : ∀ H', Same H1 H' → H' D = some (.lst []) → P 0 [] H') (hD : H1 D = none)
    (hs : ∀ i acc H Kt Kf, i < n → P i acc H → H D = some (.lst acc) → LcK D (P (i + 1)) acc Kt Kf → LcT g tt te vs σ (.int (lo + i)) H Kt Kf)
    (hd : ∀ acc H, P n acc H → H D = some (.lst acc) → Qd H) :
    ∃ W : Nat → Nat → Hp → Prop, (∃ m, W 0 m (upd H1 D (.lst []))) ∧ ∀ i m H, W i m H →
      ((Itr lo n).stop i H ∧ Qd H) ∨ ((Itr lo n).go i H ∧ ∃ Nx : Hp → Prop, (∀ H', Nx H' → ∃ m', m' < m ∧ W (i + 1) m' H') ∧ ∀ x H', (Itr lo n).yld i H x H' → g x (wipe σ vs) H' fun σ2 H2 => wipe σ2 vs = wipe σ vs ∧ tt σ2 H2 fun b H3 =>
        if b = true then te σ2 H3 fun y H4 => ∃ acc, H4 D = some (.lst acc) ∧ acc.length < sizeLine ∧ Nx (upd H4 D (.lst (acc ++ [y]))) else Nx H3) :=
  lc_range (fun i H => ∃ acc, H D = some (.lst acc) ∧ P i acc H) ⟨[], upd_same, h0 _ (Same.upd0 hD) upd_same⟩
    (fun i H hx ⟨acc, e, p⟩ => hs i acc H _ _ hx p e ⟨fun y H4 e4 z k => ⟨acc, e4, z, acc ++ [y], upd_same, k _ But.refl.upd upd_same⟩, fun H3 e3 k => ⟨acc, e3, k⟩⟩) (fun H ⟨acc, e, p⟩ => hd acc H p e)
/-- over enumerate: the pair is a new tuple -/
theorem lcE (P : Nat → List V → Hp → Prop) (h0 : ∀ H', Same H1 H' → H' D = some (.lst []) → P 0 [] H') (hD : H1 D = none) (hl : ∀ i acc H, P i acc H → SqL K H a xs)
    (hs : ∀ i x acc H T H' Kt Kf, xs[i]? = some x → P i acc H → H D = some (.lst acc) → H T = none → Same H H' → H' T = some (.tup [.int (i : Nat), x]) → LcK D (P (i + 1)) acc Kt Kf → LcT g tt te vs σ (.ref T) H' Kt Kf)
    (hd : ∀ acc H, P xs.length acc H → H D = some (.lst acc) → Qd H) :
    ∃ W : Nat → Nat → Hp → Prop, (∃ m, W 0 m (upd H1 D (.lst []))) ∧ ∀ i m H, W i m H →
      ((Ite K a).stop i H ∧ Qd H) ∨ ((Ite K a).go i H ∧ ∃ Nx : Hp → Prop, (∀ H', Nx H' → ∃ m', m' < m ∧ W (i + 1) m' H') ∧ ∀ x H', (Ite K a).yld i H x H' → g x (wipe σ vs) H' fun σ2 H2 => wipe σ2 vs = wipe σ vs ∧ tt σ2 H2 fun b H3 =>
        if b = true then te σ2 H3 fun y H4 => ∃ acc, H4 D = some (.lst acc) ∧ acc.length < sizeLine ∧ Nx (upd H4 D (.lst (acc ++ [y]))) else Nx H3) := by
  refine ⟨fun i m H => m = xs.length - i ∧ i ≤ xs.length ∧ ∃ acc, H D = some (.lst acc) ∧ P i acc H, ⟨xs.length, rfl, Nat.zero_le _, [], upd_same, h0 _ (Same.upd0 hD) upd_same⟩, ?_⟩
  rintro i m H ⟨rfl, hi, acc, e, p⟩
  have q := hl i acc H p
  by_cases hlt : i < xs.length
  · refine .inr ⟨⟨xs, xs[i], q, by simp [hlt]⟩, fun H => ∃ acc, H D = some (.lst acc) ∧ P (i + 1) acc H, fun H' p' => ⟨xs.length - (i + 1), by omega, rfl, hlt, p'⟩, fun v H' y => ?_⟩
    obtain ⟨T, x, rfl, nT, rfl, hx⟩ := y
    exact hs i x acc H T _ _ _ (hx xs q) p e nT (Same.upd0 nT) upd_same ⟨fun y H4 e4 z k => ⟨acc, e4, z, acc ++ [y], upd_same, k _ But.refl.upd upd_same⟩, fun H3 e3 k => ⟨acc, e3, k⟩⟩
  · have ei : i = xs.length := by omega
    subst ei
    exact .inl ⟨⟨xs, q, Nat.le_refl _⟩, hd acc H p e⟩
/-- over zip of two lists of one length -/
theorem lcZ (hlen : xs.length = zs.length) (P : Nat → List V → Hp → Prop) (h0 : ∀ H', Same H1 H' → H' D = some (.lst []) → P 0 [] H') (hD : H1 D = none) (hl : ∀ i acc H, P i acc H → SqL K H a xs ∧ SqL K H b zs)
    (hs : ∀ i x z acc H T H' Kt Kf, xs[i]? = some x → zs[i]? = some z → P i acc H → H D = some (.lst acc) → H T = none → Same H H' → H' T = some (.tup [x, z]) → LcK D (P (i + 1)) acc Kt Kf → LcT g tt te vs σ (.ref T) H' Kt Kf)
    (hd : ∀ acc H, P xs.length acc H → H D = some (.lst acc) → Qd H) :
    ∃ W : Nat → Nat → Hp → Prop, (∃ m, W 0 m (upd H1 D (.lst []))) ∧ ∀ i m H, W i m H →
      ((Itz K a b).stop i H ∧ Qd H) ∨ ((Itz K a b).go i H ∧ ∃ Nx : Hp → Prop, (∀ H', Nx H' → ∃ m', m' < m ∧ W (i + 1) m' H') ∧ ∀ x H', (Itz K a b).yld i H x H' → g x (wipe σ vs) H' fun σ2 H2 => wipe σ2 vs = wipe σ vs ∧ tt σ2 H2 fun b H3 =>
        if b = true then te σ2 H3 fun y H4 => ∃ acc, H4 D = some (.lst acc) ∧ acc.length < sizeLine ∧ Nx (upd H4 D (.lst (acc ++ [y]))) else Nx H3) := by
  refine ⟨fun i m H => m = xs.length - i ∧ i ≤ xs.length ∧ ∃ acc, H D = some (.lst acc) ∧ P i acc H, ⟨xs.length, rfl, Nat.zero_le _, [], upd_same, h0 _ (Same.upd0 hD) upd_same⟩, ?_⟩
  rintro i m H ⟨rfl, hi, acc, e, p⟩
  obtain ⟨q1, q2⟩ := hl i acc H p
  by_cases hlt : i < xs.length
  · have hlt2 : i < zs.length := by omega
    refine .inr ⟨⟨xs, zs, xs[i], zs[i], q1, q2, by simp [hlt], by simp [hlt2]⟩, fun H => ∃ acc, H D = some (.lst acc) ∧ P (i + 1) acc H, fun H' p' => ⟨xs.length - (i + 1), by omega, rfl, hlt, p'⟩, fun v H' y => ?_⟩
    obtain ⟨T, x, z, rfl, nT, rfl, hx, hz⟩ := y
    exact hs i x z acc H T _ _ _ (hx xs q1) (hz zs q2) p e nT (Same.upd0 nT) upd_same ⟨fun y H4 e4 z k => ⟨acc, e4, z, acc ++ [y], upd_same, k _ But.refl.upd upd_same⟩, fun H3 e3 k => ⟨acc, e3, k⟩⟩
  · have ei : i = xs.length := by omega
    subst ei
    exact .inl ⟨⟨xs, zs, q1, q2, .inl (Nat.le_refl _)⟩, hd acc H p e⟩
/-- items that hang on the item alone (what stands, stands): the list of those that are told -/
def lcYs (n : Nat) (ys : Nat → Option V) : List V := (List.range n).filterMap ys
theorem lcYs_succ (n : Nat) (ys : Nat → Option V) : lcYs (n + 1) ys = lcYs n ys ++ (ys n).toList := by
  unfold lcYs
  rw [List.range_succ, List.filterMap_append]
  cases h : ys n with
  | none => simp [h]
  | some y => simp [h]
theorem lcYs_len (n : Nat) (ys : Nat → Option V) : (lcYs n ys).length ≤ n := by
  unfold lcYs
  have := List.length_filterMap_le ys (List.range n)
  rw [List.length_range] at this
  exact this
theorem lcYs_const (n : Nat) (v : V) : lcYs n (fun _ => some v) = List.replicate n v := by
  induction n with
  | zero => rfl
  | succ n ih => rw [lcYs_succ, ih, List.replicate_succ']; rfl
/-- .. one for each item -/
theorem lcYs_map {α : Type} (f : α → V) : ∀ (xs : List α) (ys : Nat → Option V), (∀ i x, xs[i]? = some x → ys i = some (f x)) → lcYs xs.length ys = xs.map f := by
  intro xs ys h
  have key : ∀ n, n ≤ xs.length → lcYs n ys = (xs.take n).map f := by
    intro n
    induction n with
    | zero => intro _; rfl
    | succ n ih =>
      intro hn
      have hx : xs[n]? = some xs[n] := List.getElem?_eq_getElem (by omega)
      rw [lcYs_succ, ih (by omega), h n _ hx, List.take_add_one, hx, List.map_append]
      rfl
  rw [key _ (Nat.le_refl _), List.take_length]
/-- .. of those that a test keeps -/
theorem lcYs_filter {α : Type} (q : α → Bool) (f : α → V) : ∀ (xs : List α) (ys : Nat → Option V), (∀ i x, xs[i]? = some x → ys i = if q x = true then some (f x) else none) → lcYs xs.length ys = (xs.filter q).map f := by
  intro xs ys h
  have key : ∀ n, n ≤ xs.length → lcYs n ys = ((xs.take n).filter q).map f := by
    intro n
    induction n with
    | zero => intro _; rfl
    | succ n ih =>
      intro hn
      have hx : xs[n]? = some xs[n] := List.getElem?_eq_getElem (by omega)
      rw [lcYs_succ, ih (by omega), h n _ hx, List.take_add_one, hx, List.filter_append, List.map_append]
      congr 1
      cases hq : q xs[n] <;> simp [hq]
  rw [key _ (Nat.le_refl _), List.take_length]
/-- the ends of a turn that changes nothing -/
structure LcQ (H : Hp) (r : Option V) (Kt : V → Hp → Prop) (Kf : Hp → Prop) : Prop where
  yes : ∀ y H4, Same H H4 → r = some y → Kt y H4
  no : ∀ H3, Same H H3 → r = none → Kf H3
theorem lcQ_of {P : Nat → List V → Hp → Prop} {ys : Nat → Option V} {i : Nat} {acc : List V} {H H0 : Hp} {Kt : V → Hp → Prop} {Kf : Hp → Prop} (hP : P = fun i acc H => acc = lcYs i ys ∧ Same H1 H) (hD : H1 D = none) (hi : i < 100000)
    (p : P i acc H0) (e : H0 D = some (.lst acc)) (s : Same H0 H) (k : LcK D (P (i + 1)) acc Kt Kf) : LcQ H (ys i) Kt Kf := by
  subst hP
  obtain ⟨rfl, sm⟩ := p
  have hz : (lcYs i ys).length < sizeLine := Nat.lt_of_le_of_lt (lcYs_len i ys) (Nat.lt_of_lt_of_le hi (by decide))
  refine ⟨fun y H4 s4 ey => k.yes y H4 (s4 _ _ (s _ _ e)) hz fun H5 b5 _ => ⟨?_, ?_⟩, fun H3 s3 en => k.no H3 (s3 _ _ (s _ _ e)) ⟨?_, (sm.trans s).trans s3⟩⟩
  · rw [lcYs_succ, ey]; rfl
  · exact Same.mut' ((sm.trans s).trans s4) b5 hD
  · rw [lcYs_succ, en]; simp
theorem lcLq (ys : Nat → Option V) (hD : H1 D = none) (hx : SqL K H1 a xs) (hn : xs.length ≤ 100000)
    (hs : ∀ i x H Kt Kf, xs[i]? = some x → Same H1 H → LcQ H (ys i) Kt Kf → LcT g tt te vs σ x H Kt Kf)
    (hd : ∀ H, Same H1 H → H D = some (.lst (lcYs xs.length ys)) → Qd H) :
    ∃ W : Nat → Nat → Hp → Prop, (∃ m, W 0 m (upd H1 D (.lst []))) ∧ ∀ i m H, W i m H →
      ((Itl K a).stop i H ∧ Qd H) ∨ ((Itl K a).go i H ∧ ∃ Nx : Hp → Prop, (∀ H', Nx H' → ∃ m', m' < m ∧ W (i + 1) m' H') ∧ ∀ x H', (Itl K a).yld i H x H' → g x (wipe σ vs) H' fun σ2 H2 => wipe σ2 vs = wipe σ vs ∧ tt σ2 H2 fun b H3 =>
        if b = true then te σ2 H3 fun y H4 => ∃ acc, H4 D = some (.lst acc) ∧ acc.length < sizeLine ∧ Nx (upd H4 D (.lst (acc ++ [y]))) else Nx H3) :=
  lcL (fun i acc H => acc = lcYs i ys ∧ Same H1 H) (fun H' s _ => ⟨rfl, s⟩) hD (fun i acc H p => p.2.seq hx)
    (fun i x acc H Kt Kf hxi p e k => hs i x H Kt Kf hxi p.2 (lcQ_of rfl hD (by have := (List.getElem?_eq_some_iff.mp hxi).1; omega) p e (Same.refl H) k))
    (fun acc H p e => hd H p.2 (by rw [← p.1]; exact e))
theorem lcTq (ys : Nat → Option V) (hD : H1 D = none) (hx : SqT K H1 a xs) (hn : xs.length ≤ 100000)
    (hs : ∀ i x H Kt Kf, xs[i]? = some x → Same H1 H → LcQ H (ys i) Kt Kf → LcT g tt te vs σ x H Kt Kf)
    (hd : ∀ H, Same H1 H → H D = some (.lst (lcYs xs.length ys)) → Qd H) :
    ∃ W : Nat → Nat → Hp → Prop, (∃ m, W 0 m (upd H1 D (.lst []))) ∧ ∀ i m H, W i m H →
      ((Itt K a).stop i H ∧ Qd H) ∨ ((Itt K a).go i H ∧ ∃ Nx : Hp → Prop, (∀ H', Nx H' → ∃ m', m' < m ∧ W (i + 1) m' H') ∧ ∀ x H', (Itt K a).yld i H x H' → g x (wipe σ vs) H' fun σ2 H2 => wipe σ2 vs = wipe σ vs ∧ tt σ2 H2 fun b H3 =>
        if b = true then te σ2 H3 fun y H4 => ∃ acc, H4 D = some (.lst acc) ∧ acc.length < sizeLine ∧ Nx (upd H4 D (.lst (acc ++ [y]))) else Nx H3) :=
  lcT (fun i acc H => acc = lcYs i ys ∧ Same H1 H) (fun H' s _ => ⟨rfl, s⟩) hD (fun i acc H p => (show SqT K H a xs from by
      rcases hx with (h | ⟨o, h⟩) | h
      · exact .inl (.inl (p.2 _ _ h))
      · exact .inl (.inr ⟨o, p.2 _ _ h⟩)
      · exact .inr h))
    (fun i x acc H Kt Kf hxi p e k => hs i x H Kt Kf hxi p.2 (lcQ_of rfl hD (by have := (List.getElem?_eq_some_iff.mp hxi).1; omega) p e (Same.refl H) k))
    (fun acc H p e => hd H p.2 (by rw [← p.1]; exact e))
theorem lcRq {lo : Int} {n : Nat} (ys : Nat → Option V) (hD : H1 D = none) (hn : n ≤ 100000)
    (hs : ∀ i H Kt Kf, i < n → Same H1 H → LcQ H (ys i) Kt Kf → LcT g tt te vs σ (.int (lo + i)) H Kt Kf)
    (hd : ∀ H, Same H1 H → H D = some (.lst (lcYs n ys)) → Qd H) :
    ∃ W : Nat → Nat → Hp → Prop, (∃ m, W 0 m (upd H1 D (.lst []))) ∧ ∀ i m H, W i m H →
      ((Itr lo n).stop i H ∧ Qd H) ∨ ((Itr lo n).go i H ∧ ∃ Nx : Hp → Prop, (∀ H', Nx H' → ∃ m', m' < m ∧ W (i + 1) m' H') ∧ ∀ x H', (Itr lo n).yld i H x H' → g x (wipe σ vs) H' fun σ2 H2 => wipe σ2 vs = wipe σ vs ∧ tt σ2 H2 fun b H3 =>
        if b = true then te σ2 H3 fun y H4 => ∃ acc, H4 D = some (.lst acc) ∧ acc.length < sizeLine ∧ Nx (upd H4 D (.lst (acc ++ [y]))) else Nx H3) :=
  lcR (fun i acc H => acc = lcYs i ys ∧ Same H1 H) (fun H' s _ => ⟨rfl, s⟩) hD
    (fun i acc H Kt Kf hxi p e k => hs i H Kt Kf hxi p.2 (lcQ_of rfl hD (by omega) p e (Same.refl H) k))
    (fun acc H p e => hd H p.2 (by rw [← p.1]; exact e))
theorem lcEq (ys : Nat → Option V) (hD : H1 D = none) (hx : SqL K H1 a xs) (hn : xs.length ≤ 100000)
    (hs : ∀ i x T H Kt Kf, xs[i]? = some x → Same H1 H → H T = some (.tup [.int (i : Nat), x]) → LcQ H (ys i) Kt Kf → LcT g tt te vs σ (.ref T) H Kt Kf)
    (hd : ∀ H, Same H1 H → H D = some (.lst (lcYs xs.length ys)) → Qd H) :
    ∃ W : Nat → Nat → Hp → Prop, (∃ m, W 0 m (upd H1 D (.lst []))) ∧ ∀ i m H, W i m H →
      ((Ite K a).stop i H ∧ Qd H) ∨ ((Ite K a).go i H ∧ ∃ Nx : Hp → Prop, (∀ H', Nx H' → ∃ m', m' < m ∧ W (i + 1) m' H') ∧ ∀ x H', (Ite K a).yld i H x H' → g x (wipe σ vs) H' fun σ2 H2 => wipe σ2 vs = wipe σ vs ∧ tt σ2 H2 fun b H3 =>
        if b = true then te σ2 H3 fun y H4 => ∃ acc, H4 D = some (.lst acc) ∧ acc.length < sizeLine ∧ Nx (upd H4 D (.lst (acc ++ [y]))) else Nx H3) :=
  lcE (fun i acc H => acc = lcYs i ys ∧ Same H1 H) (fun H' s _ => ⟨rfl, s⟩) hD (fun i acc H p => p.2.seq hx)
    (fun i x acc H T H' Kt Kf hxi p e nT sT gT k => hs i x T H' Kt Kf hxi (p.2.trans sT) gT (lcQ_of rfl hD (by have := (List.getElem?_eq_some_iff.mp hxi).1; omega) p e sT k))
    (fun acc H p e => hd H p.2 (by rw [← p.1]; exact e))
theorem lcZq (ys : Nat → Option V) (hlen : xs.length = zs.length) (hD : H1 D = none) (hx : SqL K H1 a xs) (hz : SqL K H1 b zs) (hn : xs.length ≤ 100000)
    (hs : ∀ i x z T H Kt Kf, xs[i]? = some x → zs[i]? = some z → Same H1 H → H T = some (.tup [x, z]) → LcQ H (ys i) Kt Kf → LcT g tt te vs σ (.ref T) H Kt Kf)
    (hd : ∀ H, Same H1 H → H D = some (.lst (lcYs xs.length ys)) → Qd H) :
    ∃ W : Nat → Nat → Hp → Prop, (∃ m, W 0 m (upd H1 D (.lst []))) ∧ ∀ i m H, W i m H →
      ((Itz K a b).stop i H ∧ Qd H) ∨ ((Itz K a b).go i H ∧ ∃ Nx : Hp → Prop, (∀ H', Nx H' → ∃ m', m' < m ∧ W (i + 1) m' H') ∧ ∀ x H', (Itz K a b).yld i H x H' → g x (wipe σ vs) H' fun σ2 H2 => wipe σ2 vs = wipe σ vs ∧ tt σ2 H2 fun b H3 =>
        if b = true then te σ2 H3 fun y H4 => ∃ acc, H4 D = some (.lst acc) ∧ acc.length < sizeLine ∧ Nx (upd H4 D (.lst (acc ++ [y]))) else Nx H3) :=
  lcZ hlen (fun i acc H => acc = lcYs i ys ∧ Same H1 H) (fun H' s _ => ⟨rfl, s⟩) hD (fun i acc H p => ⟨p.2.seq hx, p.2.seq hz⟩)
    (fun i x z acc H T H' Kt Kf hxi hzi p e nT sT gT k => hs i x z T H' Kt Kf hxi hzi (p.2.trans sT) gT (lcQ_of rfl hD (by have := (List.getElem?_eq_some_iff.mp hxi).1; omega) p e sT k))
    (fun acc H p e => hd H p.2 (by rw [← p.1]; exact e))
end
/-- the items of a dict: it is held from there on (nobody else has it) -/
def iItemsN (td : TE) : TI := fun σ H R => td σ H fun x H1 => ∃ d kvs, x = .ref d ∧ H1 d = some (.dK kvs) ∧ ∀ o H2, But d H1 H2 → H2 d = some (.frz o (.dK kvs)) → R (Iti d o kvs) H2
theorem pi_itemsN {X : Cx} {e : Expr} {td : TE} {apos cpos : Pos} {elts : List Expr} {kk : Nat} {tpos : Pos} (he : PE X e td) (hbase : attributeBase e "items" X.env (eval e X.env) = eval e X.env := by rfl) (hline : (apos.endLine == cpos.line) = true := by rfl) :
    PI X (.Tuple elts kk tpos) (.Call (.Attribute e "items" apos) [] [] cpos) (iItemsN td) := by
  refine ⟨fun pins s σ H R I h => ?_⟩
  refine wpAny_Call_method (T := "dict") (id := "dict.items") hbase rfl hline F.plainAttrs_dict F.slot_dict_items F.type_dict_items (thn (he.run pins s σ H _ I h) fun u s1 ⟨x, H0, I0, rx, d, kvs, ex, hd0, q0⟩ => ?_)
  subst ex
  obtain rfl : u = Value.ref d := rx
  obtain ⟨o, I1⟩ := I0.lock hd0 trivial
  have hd : (upd H0 d (.frz o (.dK kvs))) d = some (.frz o (.dK kvs)) := upd_same
  have q := q0 o _ But.refl.upd hd
  generalize upd H0 d (.frz o (.dK kvs)) = H1 at I1 hd q
  obtain ⟨hs, hgd, hx, es, ep, vs, hdt, hsz, kv, hm⟩ := I1.frzK hd
  have hl : kvs.length = vs.length := Paired.length kv
  refine ⟨hm.dictOf.typeIs, hm.dictOf.mapOf.noDict, ?_⟩
  have I2 : Inv X pins σ H1 { s1 with heap := s1.heap.push { cls := .type "dict_items", data := .fields #[.ref d] } } := I1.kept (t' := s1.toks) fun b ob q => Heap.get?_push_of_some _ q
  have fin : wpAny (model X.prog X.w) X.A (pyIter (.ref s1.heap.objs.size)) (PIE X pins σ (.Tuple elts kk tpos) R) X.xe { s1 with heap := s1.heap.push { cls := .type "dict_items", data := .fields #[.ref d] } } := by
    refine wpAny_pyIter_items (d := d) (knd := mixKind X.prog X.w) ⟨_, Heap.get?_push_size _ rfl, rfl, rfl⟩ (hm.push _) (pi_one (tk := s1.toks) I2 _ (turn_items _ hdt) ⟨.none, .none, ?_⟩ q)
    rw [hl]
    exact Heap.get?_push_size _ rfl
  show wpAny _ _ (callWith cpos (.builtin "dict.items") [.ref d] [] []) _ X.xe s1
  exact method_meetsIn F.slot_dict_items F.entry_dict_items rfl (PySem.evalArgs_none ⟨rfl, hm.dictOf.typeIs, F.args_dict_items_1 _, _, meets_dict_items (mixKind X.prog X.w) d hs, ⟨vs, hm.dictOf⟩, fin⟩)
/-! ### loops over enumerate, zip, the items of a dict that nobody else holds -/
section
variable {K : PySem.W.Frag} {a b : Addr} {xs zs : List V} {g : TG} {tb : TS} {D : Ends} {σ : L2.St} {H : Hp}
theorem for_enum (Pv : Nat → L2.St → Hp → Prop) (h0 : Pv 0 σ H) (hl : ∀ i σ H, Pv i σ H → SqL K H a xs)
    (hs : ∀ i x T σ H H', xs[i]? = some x → Pv i σ H → H T = none → Same H H' → H' T = some (.tup [.int (i : Nat), x]) → g (.ref T) σ H' fun σ2 H2 => tb { D with nx := Pv (i + 1), ct := Pv (i + 1), bk := D.nx } σ2 H2) (hd : ∀ σ H, Pv xs.length σ H → D.nx σ H) :
    ∃ W : Nat → Nat → L2.St → Hp → Prop, (∃ m, W 0 m σ H) ∧ ∀ i m σ H, W i m σ H →
      ((Ite K a).stop i H ∧ D.nx σ H) ∨ ((Ite K a).go i H ∧ ∃ N : L2.St → Hp → Prop, (∀ σ' H', N σ' H' → ∃ m', m' < m ∧ W (i + 1) m' σ' H') ∧ ∀ v H', (Ite K a).yld i H v H' → g v σ H' fun σ2 H2 => tb { D with nx := N, ct := N, bk := D.nx } σ2 H2) := by
  refine ⟨fun i m σ H => m = xs.length - i ∧ i ≤ xs.length ∧ Pv i σ H, ⟨xs.length, rfl, Nat.zero_le _, h0⟩, ?_⟩
  rintro i m σ H ⟨rfl, hi, p⟩
  have q := hl i σ H p
  by_cases hlt : i < xs.length
  · refine .inr ⟨⟨xs, xs[i], q, by simp [hlt]⟩, Pv (i + 1), fun σ' H' p' => ⟨xs.length - (i + 1), by omega, rfl, hlt, p'⟩, fun v H' y => ?_⟩
    obtain ⟨T, x, rfl, nT, rfl, hx⟩ := y
    exact hs i x T σ H _ (hx xs q) p nT (Same.upd0 nT) upd_same
  · have ei : i = xs.length := by omega
    subst ei
    exact .inl ⟨⟨xs, q, Nat.le_refl _⟩, hd σ H p⟩
theorem for_zip (hlen : xs.length = zs.length) (Pv : Nat → L2.St → Hp → Prop) (h0 : Pv 0 σ H) (hl : ∀ i σ H, Pv i σ H → SqL K H a xs ∧ SqL K H b zs)
    (hs : ∀ i x z T σ H H', xs[i]? = some x → zs[i]? = some z → Pv i σ H → H T = none → Same H H' → H' T = some (.tup [x, z]) → g (.ref T) σ H' fun σ2 H2 => tb { D with nx := Pv (i + 1), ct := Pv (i + 1), bk := D.nx } σ2 H2) (hd : ∀ σ H, Pv xs.length σ H → D.nx σ H) :
    ∃ W : Nat → Nat → L2.St → Hp → Prop, (∃ m, W 0 m σ H) ∧ ∀ i m σ H, W i m σ H →
      ((Itz K a b).stop i H ∧ D.nx σ H) ∨ ((Itz K a b).go i H ∧ ∃ N : L2.St → Hp → Prop, (∀ σ' H', N σ' H' → ∃ m', m' < m ∧ W (i + 1) m' σ' H') ∧ ∀ v H', (Itz K a b).yld i H v H' → g v σ H' fun σ2 H2 => tb { D with nx := N, ct := N, bk := D.nx } σ2 H2) := by
  refine ⟨fun i m σ H => m = xs.length - i ∧ i ≤ xs.length ∧ Pv i σ H, ⟨xs.length, rfl, Nat.zero_le _, h0⟩, ?_⟩
  rintro i m σ H ⟨rfl, hi, p⟩
  obtain ⟨q1, q2⟩ := hl i σ H p
  by_cases hlt : i < xs.length
  · have hlt2 : i < zs.length := by omega
    refine .inr ⟨⟨xs, zs, xs[i], zs[i], q1, q2, by simp [hlt], by simp [hlt2]⟩, Pv (i + 1), fun σ' H' p' => ⟨xs.length - (i + 1), by omega, rfl, hlt, p'⟩, fun v H' y => ?_⟩
    obtain ⟨T, x, z, rfl, nT, rfl, hx, hz⟩ := y
    exact hs i x z T σ H _ (hx xs q1) (hz zs q2) p nT (Same.upd0 nT) upd_same
  · have ei : i = xs.length := by omega
    subst ei
    exact .inl ⟨⟨xs, zs, q1, q2, .inl (Nat.le_refl _)⟩, hd σ H p⟩
theorem for_items {d : Addr} {o : Obj} {kvs : List (Key × V)} (Pv : Nat → L2.St → Hp → Prop) (h0 : Pv 0 σ H) (hl : ∀ i σ H, Pv i σ H → H d = some (.frz o (.dK kvs)))
    (hs : ∀ i k v T σ H H', kvs[i]? = some (k, v) → Pv i σ H → H T = none → Same H H' → H' T = some (.tup [kV k, v]) → g (.ref T) σ H' fun σ2 H2 => tb { D with nx := Pv (i + 1), ct := Pv (i + 1), bk := D.nx } σ2 H2) (hd : ∀ σ H, Pv kvs.length σ H → D.nx σ H) :
    ∃ W : Nat → Nat → L2.St → Hp → Prop, (∃ m, W 0 m σ H) ∧ ∀ i m σ H, W i m σ H →
      ((Iti d o kvs).stop i H ∧ D.nx σ H) ∨ ((Iti d o kvs).go i H ∧ ∃ N : L2.St → Hp → Prop, (∀ σ' H', N σ' H' → ∃ m', m' < m ∧ W (i + 1) m' σ' H') ∧ ∀ v H', (Iti d o kvs).yld i H v H' → g v σ H' fun σ2 H2 => tb { D with nx := N, ct := N, bk := D.nx } σ2 H2) := by
  refine ⟨fun i m σ H => m = kvs.length - i ∧ i ≤ kvs.length ∧ Pv i σ H, ⟨kvs.length, rfl, Nat.zero_le _, h0⟩, ?_⟩
  rintro i m σ H ⟨rfl, hi, p⟩
  have q := hl i σ H p
  by_cases hlt : i < kvs.length
  · refine .inr ⟨⟨q, hlt⟩, Pv (i + 1), fun σ' H' p' => ⟨kvs.length - (i + 1), by omega, rfl, hlt, p'⟩, fun v H' y => ?_⟩
    obtain ⟨T, k, v, hx, rfl, nT, rfl⟩ := y
    exact hs i k v T σ H _ hx p nT (Same.upd0 nT) upd_same
  · have ei : i = kvs.length := by omega
    subst ei
    exact .inl ⟨⟨q, Nat.le_refl _⟩, hd σ H p⟩
end
/-! ### data, == -/
section
variable {K : PySem.W.Frag} {H H' : Hp}
theorem Same.seqT {a : Addr} {xs : List V} (e : Same H H') (h : SqT K H a xs) : SqT K H' a xs := by
  rcases h with (h | ⟨o, h⟩) | h
  · exact .inl (.inl (e _ _ h))
  · exact .inl (.inr ⟨o, e _ _ h⟩)
  · exact .inr h
mutual
theorem dp_mono (s : Same H H') : ∀ {v : V} {d : PyData}, Dp K H v d → Dp K H' v d
  | _, _, .non => .non
  | _, _, .bl b => .bl b
  | _, _, .int i => .int i
  | _, _, .str x => .str x
  | _, _, .lst h a => .lst (s.seq h) (dpAll_mono s a)
  | _, _, .tup h a => .tup (Same.seqT s h) (dpAll_mono s a)
theorem dpAll_mono (s : Same H H') : ∀ {vs : List V} {ds : List PyData}, DpAll K H vs ds → DpAll K H' vs ds
  | _, _, .nil => .nil
  | _, _, .cons h t => .cons (dp_mono s h) (dpAll_mono s t)
end
theorem dpAll_map {α : Type} {f : α → V} {g : α → PyData} (h : ∀ x, Dp K H (f x) (g x)) : ∀ xs : List α, DpAll K H (xs.map f) (xs.map g)
  | [] => .nil
  | x :: xs => .cons (h x) (dpAll_map h xs)
theorem dp_ints {a : Addr} {ns : List Int} (h : SqL K H a (ns.map V.int)) : Dp K H (.ref a) (.list (ns.map .int)) := .lst h (dpAll_map (fun i => .int i) ns)
def optD : Option Int → PyData
  | some i => .int i
  | none => .none
theorem dp_opt : ∀ x, Dp K H (optI x) (optD x)
  | some i => .int i
  | none => .non
theorem dp_opts {a : Addr} {ns : List (Option Int)} (h : SqL K H a (ns.map optI)) : Dp K H (.ref a) (.list (ns.map optD)) := .lst h (dpAll_map dp_opt ns)
end
mutual
/-- data without truths and dicts -/
def nob : PyData → Bool
  | .none | .int _ | .str _ => true
  | .bool _ | .dict _ => false
  | .list xs | .tuple xs => nobAll xs
def nobAll : List PyData → Bool
  | [] => true
  | x :: xs => nob x && nobAll xs
end
mutual
theorem eqv_iff : ∀ {d e : PyData}, nob d = true → nob e = true → (PyData.eqv d e = true ↔ d = e)
  | .none, .none, _, _ => by simp [PyData.eqv]
  | .none, .int _, _, _ => by simp [PyData.eqv]
  | .none, .str _, _, _ => by simp [PyData.eqv]
  | .none, .list _, _, _ => by simp [PyData.eqv]
  | .none, .tuple _, _, _ => by simp [PyData.eqv]
  | .int _, .none, _, _ => by simp [PyData.eqv]
  | .int _, .int _, _, _ => by simp [PyData.eqv]
  | .int _, .str _, _, _ => by simp [PyData.eqv]
  | .int _, .list _, _, _ => by simp [PyData.eqv]
  | .int _, .tuple _, _, _ => by simp [PyData.eqv]
  | .str _, .none, _, _ => by simp [PyData.eqv]
  | .str _, .int _, _, _ => by simp [PyData.eqv]
  | .str _, .str _, _, _ => by simp [PyData.eqv]
  | .str _, .list _, _, _ => by simp [PyData.eqv]
  | .str _, .tuple _, _, _ => by simp [PyData.eqv]
  | .list _, .none, _, _ => by simp [PyData.eqv]
  | .list _, .int _, _, _ => by simp [PyData.eqv]
  | .list _, .str _, _, _ => by simp [PyData.eqv]
  | .list xs, .list ys, h1, h2 => by
    have h := eqvAll_iff (xs := xs) (ys := ys) (by simpa [nob] using h1) (by simpa [nob] using h2)
    simp only [PyData.eqv, PyData.list.injEq]; exact h
  | .list _, .tuple _, _, _ => by simp [PyData.eqv]
  | .tuple _, .none, _, _ => by simp [PyData.eqv]
  | .tuple _, .int _, _, _ => by simp [PyData.eqv]
  | .tuple _, .str _, _, _ => by simp [PyData.eqv]
  | .tuple _, .list _, _, _ => by simp [PyData.eqv]
  | .tuple xs, .tuple ys, h1, h2 => by
    have h := eqvAll_iff (xs := xs) (ys := ys) (by simpa [nob] using h1) (by simpa [nob] using h2)
    simp only [PyData.eqv, PyData.tuple.injEq]; exact h
  | .bool _, _, h, _ => by simp [nob] at h
  | .dict _, _, h, _ => by simp [nob] at h
  | .none, .bool _, _, h => by simp [nob] at h
  | .none, .dict _, _, h => by simp [nob] at h
  | .int _, .bool _, _, h => by simp [nob] at h
  | .int _, .dict _, _, h => by simp [nob] at h
  | .str _, .bool _, _, h => by simp [nob] at h
  | .str _, .dict _, _, h => by simp [nob] at h
  | .list _, .bool _, _, h => by simp [nob] at h
  | .list _, .dict _, _, h => by simp [nob] at h
  | .tuple _, .bool _, _, h => by simp [nob] at h
  | .tuple _, .dict _, _, h => by simp [nob] at h
theorem eqvAll_iff : ∀ {xs ys : List PyData}, nobAll xs = true → nobAll ys = true → (PyData.eqvAll xs ys = true ↔ xs = ys)
  | [], [], _, _ => by simp [PyData.eqvAll]
  | [], _ :: _, _, _ => by simp [PyData.eqvAll]
  | _ :: _, [], _, _ => by simp [PyData.eqvAll]
  | x :: xs, y :: ys, h1, h2 => by
    simp only [nobAll, Bool.and_eq_true] at h1 h2
    have a := eqv_iff h1.1 h2.1
    have b := eqvAll_iff h1.2 h2.2
    simp only [PyData.eqvAll, Bool.and_eq_true, List.cons.injEq]
    rw [a, b]
end
theorem eqv_dec {d e : PyData} (h1 : nob d = true) (h2 : nob e = true) {b : Bool} (h : b = true ↔ d = e) : PyData.eqv d e = b := by
  have a := eqv_iff h1 h2
  cases hb : b with
  | true => rw [hb] at h; exact a.mpr (h.mp rfl)
  | false =>
    cases he : PyData.eqv d e with
    | false => rfl
    | true => have := h.mpr (a.mp he); rw [hb] at this; cases this
theorem nobAll_map {α : Type} {g : α → PyData} (h : ∀ x, nob (g x) = true) : ∀ xs : List α, nobAll (xs.map g) = true
  | [] => by simp [nobAll]
  | x :: xs => by simp only [List.map_cons, nobAll, h x, nobAll_map h xs, Bool.and_self]
theorem canLayAll0_map {α : Type} {g : α → PyData} (h : ∀ x, (g x).canLay0 = true) : ∀ xs : List α, PyData.canLayAll0 (xs.map g) = true
  | [] => by simp [PyData.canLayAll0]
  | x :: xs => by simp only [List.map_cons, PyData.canLayAll0, h x, canLayAll0_map h xs, Bool.and_self]
theorem depthAll_map {α : Type} {g : α → PyData} {m : Nat} (h : ∀ x, (g x).depth ≤ m) : ∀ xs : List α, PyData.depthAll (xs.map g) ≤ m
  | [] => by simp [PyData.depthAll]
  | x :: xs => by
    have h1 := h x
    have h2 := depthAll_map h xs
    simp only [List.map_cons, PyData.depthAll]; omega
theorem shaped_map {α : Type} {g : α → PyData} {m : Nat} (hm : m < 64) (h1 : ∀ x, (g x).canLay0 = true) (h2 : ∀ x, (g x).depth ≤ m) (xs : List α) : SeqAt.shaped (.list (xs.map g)) = true := by
  unfold SeqAt.shaped
  rw [Bool.and_eq_true]
  refine ⟨by simp only [PyData.canLay0]; exact canLayAll0_map h1 xs, decide_eq_true ?_⟩
  have := depthAll_map h2 xs
  simp only [PyData.depth]; omega
theorem shaped_ints (ns : List Int) : SeqAt.shaped (.list (ns.map .int)) = true := shaped_map (m := 0) (by decide) (fun _ => by simp [PyData.canLay0]) (fun _ => by simp [PyData.depth]) ns
theorem shaped_opts (ns : List (Option Int)) : SeqAt.shaped (.list (ns.map optD)) = true := shaped_map (m := 0) (by decide) (fun x => by cases x <;> simp [optD, PyData.canLay0]) (fun x => by cases x <;> simp [optD, PyData.depth]) ns
theorem nob_ints (ns : List Int) : nob (.list (ns.map .int)) = true := by simp only [nob]; exact nobAll_map (fun _ => by simp [nob]) ns
theorem nob_opts (ns : List (Option Int)) : nob (.list (ns.map optD)) = true := by simp only [nob]; exact nobAll_map (fun x => by cases x <;> simp [optD, nob]) ns
theorem map_inj {α β : Type} {f : α → β} (h : ∀ a b, f a = f b → a = b) : ∀ {xs ys : List α}, xs.map f = ys.map f → xs = ys
  | [], [], _ => rfl
  | [], _ :: _, e => by simp at e
  | _ :: _, [], e => by simp at e
  | x :: xs, y :: ys, e => by
    simp only [List.map_cons, List.cons.injEq] at e
    rw [h x y e.1, map_inj h e.2]
theorem eqv_ints (ns ms : List Int) : PyData.eqv (.list (ns.map .int)) (.list (ms.map .int)) = decide (ns = ms) :=
  eqv_dec (nob_ints ns) (nob_ints ms) (by
    rw [decide_eq_true_iff]
    exact ⟨fun e => by rw [e], fun e => map_inj (fun a b h => PyData.int.inj h) (PyData.list.inj e)⟩)
theorem eqv_opts (ns ms : List (Option Int)) : PyData.eqv (.list (ns.map optD)) (.list (ms.map optD)) = decide (ns = ms) :=
  eqv_dec (nob_opts ns) (nob_opts ms) (by
    rw [decide_eq_true_iff]
    exact ⟨fun e => by rw [e], fun e => map_inj (fun a b h => by cases a <;> cases b <;> simp_all [optD]) (PyData.list.inj e)⟩)
section
variable {X : Cx}
/-- two lists of ints -/
def rEqIs (K : PySem.W.Frag) : R2 := fun x y H Q => ∃ (a b : Addr) (ns ms : List Int), x = .ref a ∧ y = .ref b ∧ SqL K H a (ns.map V.int) ∧ SqL K H b (ms.map V.int) ∧ Q (.bl (decide (ns = ms))) H
def rNeIs (K : PySem.W.Frag) : R2 := fun x y H Q => ∃ (a b : Addr) (ns ms : List Int), x = .ref a ∧ y = .ref b ∧ SqL K H a (ns.map V.int) ∧ SqL K H b (ms.map V.int) ∧ Q (.bl (!decide (ns = ms))) H
theorem op_eqIs (hu : X.A.units + 64 < cLine) : OpR X (compareOp .Eq) (rEqIs X.K) := opR_imp (op_eqD hu) fun _ _ _ _ ⟨a, b, ns, ms, e1, e2, h1, h2, q⟩ => by
  subst e1 e2
  exact ⟨_, _, dp_ints h1, dp_ints h2, shaped_ints ns, shaped_ints ms, by rw [eqv_ints]; exact q⟩
theorem op_neIs (hu : X.A.units + 64 < cLine) : OpR X (compareOp .NotEq) (rNeIs X.K) := opR_imp (op_neD hu) fun _ _ _ _ ⟨a, b, ns, ms, e1, e2, h1, h2, q⟩ => by
  subst e1 e2
  exact ⟨_, _, dp_ints h1, dp_ints h2, shaped_ints ns, shaped_ints ms, by rw [eqv_ints]; exact q⟩
end
/-! ### rules that hang on the written part, the part by its name (a comprehension's block has the same one) -/
section
variable {X : Cx} {K : PySem.W.Frag}
theorem op_notInK (h : X.K = K) : OpR X (compareOp .NotIn) (rIn K true) := h ▸ op_notIn_seq
theorem op_inK (h : X.K = K) : OpR X (compareOp .In) (rIn K false) := h ▸ op_in_seq
theorem ix_listK (h : X.K = K) : IxR X (rIxL K) := h ▸ ix_list
theorem ix_tupK (h : X.K = K) : IxR X (rIxT K) := h ▸ ix_tup
theorem ix_seqK (h : X.K = K) : IxR X (rIx K) := h ▸ ix_seq
theorem op_catK (h : X.K = K) : OpR X (binaryOp .Add) (rCatA K) := h ▸ op_catA
theorem sl_listK (h : X.K = K) : SlR X (rSlA K) := h ▸ sl_listA
theorem op_eqDK (hu : X.A.units + 64 < cLine) (h : X.K = K) : OpR X (compareOp .Eq) (rEqD K) := h ▸ op_eqD hu
theorem op_neDK (hu : X.A.units + 64 < cLine) (h : X.K = K) : OpR X (compareOp .NotEq) (rNeD K) := h ▸ op_neD hu
theorem units65 {k : Nat} {A : Around} (r : Room k A) : A.units + 65 < cLine := by have := r.un; omega
theorem op_inDK (hu : X.A.units + 65 < cLine) (h : X.K = K) : OpR X (compareOp .In) (rInD K) := h ▸ op_inD hu
theorem op_notInDK (hu : X.A.units + 65 < cLine) (h : X.K = K) : OpR X (compareOp .NotIn) (rNotInD K) := h ▸ op_notInD hu
theorem op_eqIsK (hu : X.A.units + 64 < cLine) (h : X.K = K) : OpR X (compareOp .Eq) (rEqIs K) := h ▸ op_eqIs hu
theorem op_neIsK (hu : X.A.units + 64 < cLine) (h : X.K = K) : OpR X (compareOp .NotEq) (rNeIs K) := h ▸ op_neIs hu
theorem call_isiK (h : X.K = K) : CallR X (.builtin "isinstance") (rIsi K) := h ▸ call_isi
theorem call_isiTK (h : X.K = K) : CallR X (.builtin "isinstance") (rIsiT K) := h ▸ call_isiT
def rLen (K : PySem.W.Frag) : List V → Hp → VK → Prop := fun xs H Q => ∃ x n, xs = [x] ∧ LenV K x H n ∧ Q (.int n) H
theorem call_lenK (h : X.K = K) : CallR X (.builtin "len") (rLen K) := h ▸ call_len
theorem cr_sumK (hc : X.calm = true) (h : X.K = K) : CallR X (.builtin "sum") (rSum K) := h ▸ cr_sum hc
theorem cr_maxK (hc : X.calm = true) (h : X.K = K) : CallR X (.builtin "max") (rMax K) := h ▸ cr_max hc
theorem cr_minK (hc : X.calm = true) (h : X.K = K) : CallR X (.builtin "min") (rMin K) := h ▸ cr_min hc
theorem cr_anyK (hc : X.calm = true) (h : X.K = K) : CallR X (.builtin "any") (rAny K) := h ▸ cr_any hc
theorem cr_allK (hc : X.calm = true) (h : X.K = K) : CallR X (.builtin "all") (rAll K) := h ▸ cr_all hc
theorem call_listK (h : X.K = K) : CallR X (.type "list") (rListA K) := h ▸ call_listA
theorem call_tupLK (h : X.K = K) : CallR X (.type "tuple") (rTupLA K) := h ▸ call_tupLA
theorem pe_fldK {e : Expr} {f : Str} {pos : Pos} {ta : TE} (h : X.K = K) (he : PE X e ta) (hb : attributeBase e f X.env (eval e X.env) = eval e X.env) : PE X (.Attribute e f pos) (tFld K ta f) := h ▸ pe_fld he hb
theorem pi_listK {tg l : Expr} {tl : TE} (h : X.K = K) (hl : PE X l tl) : PI X tg l (iList K tl) := h ▸ pi_list hl
theorem pi_tupK {tg l : Expr} {tl : TE} (h : X.K = K) (hl : PE X l tl) : PI X tg l (iTup K tl) := h ▸ pi_tup hl
theorem pi_enumK {e : Expr} {ta : TA} {p pos tpos : Pos} {elts : List Expr} {kk : Nat} (h : X.K = K) (hg : Gl X "enumerate") (hm : X.mg "enumerate" = none) (ha : PA X [e] ta) (hs : starEach [e] X.env = [(false, eval e X.env)] := by rfl) :
    PI X (.Tuple elts kk tpos) (.Call (.Name "enumerate" p) [e] [] pos) (iEnum K ta) := h ▸ pi_enum hg hm ha hs
theorem pi_zipK {e e2 : Expr} {ta : TA} {p pos tpos : Pos} {elts : List Expr} {kk : Nat} (h : X.K = K) (hg : Gl X "zip") (hm : X.mg "zip" = none) (ha : PA X [e, e2] ta)
    (hs : starEach [e, e2] X.env = (false, eval e X.env) :: starEach [e2] X.env := by rfl) (hpl : (backTo pos (starEach [e2] X.env)).any (·.1) = false := by rfl) :
    PI X (.Tuple elts kk tpos) (.Call (.Name "zip" p) [e, e2] [] pos) (iZip K ta) := h ▸ pi_zip hg hm ha hs hpl
end
/-- a statement with what comes behind it by a name: M holds at its end -/
theorem seq_key {t u : TS} {D : Ends} {σ : L2.St} {H : Hp} (M : L2.St → Hp → Prop) (h2 : ∀ σ H, M σ H → u D σ H) (h1 : ∀ N : L2.St → Hp → Prop, (∀ σ H, M σ H → N σ H) → t { D with nx := N } σ H) : tSeq t u D σ H := h1 _ h2
theorem isIf {a : TT} {b c d : TS} {D : Ends} {σ : L2.St} {H : Hp} (h : tSeq (tIfS a b c) d D σ H) : tSeq (tIfS a b c) d D σ H := h
theorem iteF' {c : Bool} {A B : Prop} (hc : c = false) (h : B) : if c = true then A else B := by
  subst hc; exact iteF h
theorem iteT' {c : Bool} {A B : Prop} (hc : c = true) (h : A) : if c = true then A else B := by
  subst hc; exact iteT h
theorem Dr.seqT {K : PySem.W.Frag} {H H' : Hp} {a b : Addr} {xs : List V} (e : Dr a H H') (n : b ≠ a) (h : SqT K H b xs) : SqT K H' b xs := by
  rcases h with (h | ⟨o, h⟩) | h
  · exact .inl (.inl (e.b _ _ n h))
  · exact .inl (.inr ⟨o, e.b _ _ n h⟩)
  · exact .inr h
theorem int_inj_dec {i j : Int} : decide (V.int i = V.int j) = decide (i = j) := decide_eq_decide.mpr ⟨V.int.inj, fun e => e ▸ rfl⟩
/-- an item of a short written list -/
theorem pick2 {P : V → Prop} {a b : V} {n : Int} (h0 : 0 ≤ n) (h1 : n < 2) (ha : P a) (hb : P b) : ∃ x, atI [a, b] n = some x ∧ P x := by
  have : n = 0 ∨ n = 1 := by omega
  rcases this with rfl | rfl
  · exact ⟨a, rfl, ha⟩
  · exact ⟨b, rfl, hb⟩
theorem pick3 {P : V → Prop} {a b c : V} {n : Int} (h0 : 0 ≤ n) (h1 : n < 3) (ha : P a) (hb : P b) (hc : P c) : ∃ x, atI [a, b, c] n = some x ∧ P x := by
  have : n = 0 ∨ n = 1 ∨ n = 2 := by omega
  rcases this with rfl | rfl | rfl
  · exact ⟨a, rfl, ha⟩
  · exact ⟨b, rfl, hb⟩
  · exact ⟨c, rfl, hc⟩
theorem pick4 {P : V → Prop} {a b c d : V} {n : Int} (h0 : 0 ≤ n) (h1 : n < 4) (ha : P a) (hb : P b) (hc : P c) (hd : P d) : ∃ x, atI [a, b, c, d] n = some x ∧ P x := by
  have : n = 0 ∨ n = 1 ∨ n = 2 ∨ n = 3 := by omega
  rcases this with rfl | rfl | rfl | rfl
  · exact ⟨a, rfl, ha⟩
  · exact ⟨b, rfl, hb⟩
  · exact ⟨c, rfl, hc⟩
  · exact ⟨d, rfl, hd⟩
theorem pick5 {P : V → Prop} {a b c d e : V} {n : Int} (h0 : 0 ≤ n) (h1 : n < 5) (ha : P a) (hb : P b) (hc : P c) (hd : P d) (he : P e) : ∃ x, atI [a, b, c, d, e] n = some x ∧ P x := by
  have : n = 0 ∨ n = 1 ∨ n = 2 ∨ n = 3 ∨ n = 4 := by omega
  rcases this with rfl | rfl | rfl | rfl | rfl
  · exact ⟨a, rfl, ha⟩
  · exact ⟨b, rfl, hb⟩
  · exact ⟨c, rfl, hc⟩
  · exact ⟨d, rfl, hd⟩
  · exact ⟨e, rfl, he⟩
theorem pick6 {P : V → Prop} {a b c d e f : V} {n : Int} (h0 : 0 ≤ n) (h1 : n < 6) (ha : P a) (hb : P b) (hc : P c) (hd : P d) (he : P e) (hf : P f) : ∃ x, atI [a, b, c, d, e, f] n = some x ∧ P x := by
  have : n = 0 ∨ n = 1 ∨ n = 2 ∨ n = 3 ∨ n = 4 ∨ n = 5 := by omega
  rcases this with rfl | rfl | rfl | rfl | rfl | rfl
  · exact ⟨a, rfl, ha⟩
  · exact ⟨b, rfl, hb⟩
  · exact ⟨c, rfl, hc⟩
  · exact ⟨d, rfl, hd⟩
  · exact ⟨e, rfl, he⟩
  · exact ⟨f, rfl, hf⟩
/-- an int within bounds -/
def InR (lo hi : Int) (x : V) : Prop := ∃ z, x = .int z ∧ lo ≤ z ∧ z < hi
/-! ### isinstance of plain things -/
section
variable {X : Cx}
def rIs (T : String) (ans : V → String → Bool) : List V → Hp → VK → Prop := fun xs H Q => ∃ x t, xs = [x, .ty T] ∧ Ty7 H x t ∧ Q (.bl (ans x t)) H
theorem call_isTy (T : String) (ans : V → String → Bool) (h : ∀ H x t, Ty7 H x t → kitB t T = some (ans x t)) : CallR X (.builtin "isinstance") (rIs T ans) :=
  callR_imp call_isi fun _ H Q ⟨x, t, e, ht, q⟩ => ⟨x, _, _, _, _, e, .ty _, ht.tx, kit_ty (h H x t ht), q⟩
theorem is_list : CallR X (.builtin "isinstance") (rIs "list" fun _ t => decide (t = "list")) := call_isTy _ _ fun _ _ _ h => h.kl
theorem is_tuple : CallR X (.builtin "isinstance") (rIs "tuple" fun _ t => decide (t = "tuple")) := call_isTy _ _ fun _ _ _ h => h.kt
theorem is_str : CallR X (.builtin "isinstance") (rIs "str" fun _ t => decide (t = "str")) := call_isTy _ _ fun _ _ _ h => h.ks
theorem is_int : CallR X (.builtin "isinstance") (rIs "int" fun x _ => isI x || isB x) := call_isTy _ _ fun _ _ _ h => h.ki
theorem is_bool : CallR X (.builtin "isinstance") (rIs "bool" fun x _ => isB x) := call_isTy _ _ fun _ _ _ h => h.kb
end
/-! ### comprehensions, shorter: one item for each, those that a test keeps, items that draw -/
section
variable {K : PySem.W.Frag} {a b s : Addr} {g : TG} {tt : TT} {te : TE} {vs : List Nat} {σ : L2.St} {H1 : Hp} {D : Addr} {Qd : Hp → Prop} {α β : Type}
abbrev LcG (I : It) (g : TG) (tt : TT) (te : TE) (vs : List Nat) (σ : L2.St) (H1 : Hp) (D : Addr) (Qd : Hp → Prop) : Prop :=
    ∃ W : Nat → Nat → Hp → Prop, (∃ m, W 0 m (upd H1 D (.lst []))) ∧ ∀ i m H, W i m H →
      (I.stop i H ∧ Qd H) ∨ (I.go i H ∧ ∃ Nx : Hp → Prop, (∀ H', Nx H' → ∃ m', m' < m ∧ W (i + 1) m' H') ∧ ∀ x H', I.yld i H x H' → g x (wipe σ vs) H' fun σ2 H2 => wipe σ2 vs = wipe σ vs ∧ tt σ2 H2 fun b H3 =>
        if b = true then te σ2 H3 fun y H4 => ∃ acc, H4 D = some (.lst acc) ∧ acc.length < sizeLine ∧ Nx (upd H4 D (.lst (acc ++ [y]))) else Nx H3)
def ysF (f : α → V) (q : α → Bool) (xs : List α) (i : Nat) : Option V := xs[i]?.bind fun x => if q x = true then some (f x) else none
theorem ysF_all (f : α → V) (q : α → Bool) (xs : List α) : lcYs xs.length (ysF f q xs) = (xs.filter q).map f := lcYs_filter q f xs _ fun i x h => by unfold ysF; rw [h]; rfl
theorem ysF_one (f : α → V) (xs : List α) : lcYs xs.length (ysF f (fun _ => true) xs) = xs.map f := by
  rw [ysF_all, List.filter_eq_self.mpr fun _ _ => rfl]
theorem of_map {ρ : α → V} {ys : List α} {i : Nat} {x : V} (h : (ys.map ρ)[i]? = some x) : ∃ y, ys[i]? = some y ∧ x = ρ y := by
  rw [List.getElem?_map] at h
  cases e : ys[i]? with
  | none => rw [e] at h; cases h
  | some z => rw [e] at h; exact ⟨z, rfl, (Option.some.inj h).symm⟩
theorem lcLf (ρ f : α → V) (q : α → Bool) {ys : List α} (hD : H1 D = none) (hx : SqL K H1 a (ys.map ρ)) (hn : ys.length ≤ 100000)
    (hs : ∀ (i : Nat) (y : α) (H : Hp) (Kt : V → Hp → Prop) (Kf : Hp → Prop), ys[i]? = some y → Same H1 H → (q y = true → ∀ H4, Same H H4 → Kt (f y) H4) → (q y = false → ∀ H4, Same H H4 → Kf H4) → LcT g tt te vs σ (ρ y) H Kt Kf)
    (hd : ∀ H, Same H1 H → H D = some (.lst ((ys.filter q).map f)) → Qd H) : LcG (Itl K a) g tt te vs σ H1 D Qd :=
  lcLq (ysF f q ys) hD hx (by rw [List.length_map]; exact hn) (fun i x H Kt Kf hxi s qq => by
    obtain ⟨y, hy, rfl⟩ := of_map hxi
    exact hs i y H Kt Kf hy s (fun e H4 s4 => qq.yes _ _ s4 (by unfold ysF; rw [hy]; exact if_pos e)) (fun e H4 s4 => qq.no _ s4 (by unfold ysF; rw [hy]; exact if_neg (by rw [e]; simp))))
    (fun H s h => hd H s (by rw [h, List.length_map, ysF_all]))
theorem lcLm (ρ f : α → V) {ys : List α} (hD : H1 D = none) (hx : SqL K H1 a (ys.map ρ)) (hn : ys.length ≤ 100000)
    (hs : ∀ (i : Nat) (y : α) (H : Hp) (Kt : V → Hp → Prop) (Kf : Hp → Prop), ys[i]? = some y → Same H1 H → (∀ H4, Same H H4 → Kt (f y) H4) → LcT g tt te vs σ (ρ y) H Kt Kf)
    (hd : ∀ H, Same H1 H → H D = some (.lst (ys.map f)) → Qd H) : LcG (Itl K a) g tt te vs σ H1 D Qd :=
  lcLf ρ f (fun _ => true) hD hx hn (fun i y H Kt Kf hy s h _ => hs i y H Kt Kf hy s (h rfl)) (fun H s h => hd H s (by rw [h, List.filter_eq_self.mpr fun _ _ => rfl]))
theorem lcTf (ρ f : α → V) (q : α → Bool) {ys : List α} (hD : H1 D = none) (hx : SqT K H1 a (ys.map ρ)) (hn : ys.length ≤ 100000)
    (hs : ∀ (i : Nat) (y : α) (H : Hp) (Kt : V → Hp → Prop) (Kf : Hp → Prop), ys[i]? = some y → Same H1 H → (q y = true → ∀ H4, Same H H4 → Kt (f y) H4) → (q y = false → ∀ H4, Same H H4 → Kf H4) → LcT g tt te vs σ (ρ y) H Kt Kf)
    (hd : ∀ H, Same H1 H → H D = some (.lst ((ys.filter q).map f)) → Qd H) : LcG (Itt K a) g tt te vs σ H1 D Qd :=
  lcTq (ysF f q ys) hD hx (by rw [List.length_map]; exact hn) (fun i x H Kt Kf hxi s qq => by
    obtain ⟨y, hy, rfl⟩ := of_map hxi
    exact hs i y H Kt Kf hy s (fun e H4 s4 => qq.yes _ _ s4 (by unfold ysF; rw [hy]; exact if_pos e)) (fun e H4 s4 => qq.no _ s4 (by unfold ysF; rw [hy]; exact if_neg (by rw [e]; simp))))
    (fun H s h => hd H s (by rw [h, List.length_map, ysF_all]))
theorem lcTm (ρ f : α → V) {ys : List α} (hD : H1 D = none) (hx : SqT K H1 a (ys.map ρ)) (hn : ys.length ≤ 100000)
    (hs : ∀ (i : Nat) (y : α) (H : Hp) (Kt : V → Hp → Prop) (Kf : Hp → Prop), ys[i]? = some y → Same H1 H → (∀ H4, Same H H4 → Kt (f y) H4) → LcT g tt te vs σ (ρ y) H Kt Kf)
    (hd : ∀ H, Same H1 H → H D = some (.lst (ys.map f)) → Qd H) : LcG (Itt K a) g tt te vs σ H1 D Qd :=
  lcTf ρ f (fun _ => true) hD hx hn (fun i y H Kt Kf hy s h _ => hs i y H Kt Kf hy s (h rfl)) (fun H s h => hd H s (by rw [h, List.filter_eq_self.mpr fun _ _ => rfl]))
theorem range_get {n i : Nat} (h : i < n) : (List.range n)[i]? = some i := List.getElem?_range h
theorem lcRf {lo : Int} {n : Nat} (f : Nat → V) (q : Nat → Bool) (hD : H1 D = none) (hn : n ≤ 100000)
    (hs : ∀ (i : Nat) (H : Hp) (Kt : V → Hp → Prop) (Kf : Hp → Prop), i < n → Same H1 H → (q i = true → ∀ H4, Same H H4 → Kt (f i) H4) → (q i = false → ∀ H4, Same H H4 → Kf H4) → LcT g tt te vs σ (.int (lo + i)) H Kt Kf)
    (hd : ∀ H, Same H1 H → H D = some (.lst (((List.range n).filter q).map f)) → Qd H) : LcG (Itr lo n) g tt te vs σ H1 D Qd :=
  lcRq (ysF f q (List.range n)) hD hn (fun i H Kt Kf hi s qq =>
    hs i H Kt Kf hi s (fun e H4 s4 => qq.yes _ _ s4 (by unfold ysF; rw [range_get hi]; exact if_pos e)) (fun e H4 s4 => qq.no _ s4 (by unfold ysF; rw [range_get hi]; exact if_neg (by rw [e]; simp))))
    (fun H s h => hd H s (by have := ysF_all f q (List.range n); rw [List.length_range] at this; rw [h, this]))
theorem lcRm {lo : Int} {n : Nat} (f : Nat → V) (hD : H1 D = none) (hn : n ≤ 100000)
    (hs : ∀ (i : Nat) (H : Hp) (Kt : V → Hp → Prop) (Kf : Hp → Prop), i < n → Same H1 H → (∀ H4, Same H H4 → Kt (f i) H4) → LcT g tt te vs σ (.int (lo + i)) H Kt Kf)
    (hd : ∀ H, Same H1 H → H D = some (.lst ((List.range n).map f)) → Qd H) : LcG (Itr lo n) g tt te vs σ H1 D Qd :=
  lcRf f (fun _ => true) hD hn (fun i H Kt Kf hi s h _ => hs i H Kt Kf hi s (h rfl)) (fun H s h => hd H s (by rw [h, List.filter_eq_self.mpr fun _ _ => rfl]))
/-- items that draw from the source at s -/
theorem lcRd {lo : Int} {n : Nat} (ρ : β → V) (R : Nat → β → Prop) (h0 : Src H1 s) (hD : H1 D = none) (hn : n ≤ 100000)
    (hs : ∀ (i : Nat) (H : Hp) (Kt : V → Hp → Prop) (Kf : Hp → Prop), i < n → Dr s H1 H → (∀ b H4, Dr s H H4 → R i b → Kt (ρ b) H4) → LcT g tt te vs σ (.int (lo + i)) H Kt Kf)
    (hd : ∀ (us : List β) (H : Hp), Dr s H1 H → us.length = n → (∀ (i : Nat) (b : β), us[i]? = some b → R i b) → D ≠ s → H D = some (.lst (us.map ρ)) → Qd H) : LcG (Itr lo n) g tt te vs σ H1 D Qd :=
  have nD : D ≠ s := h0.ne hD
  lcR (fun i acc H' => Dr s H1 H' ∧ ∃ us : List β, acc = us.map ρ ∧ us.length = i ∧ ∀ (i : Nat) (b : β), us[i]? = some b → R i b)
    (fun H' s' _ => ⟨Dr.of h0 s', [], rfl, rfl, fun i b h => by cases h⟩) hD (fun i acc H' Kt Kf hi p e kk => by
      obtain ⟨dp, us, rfl, hul, hub⟩ := p
      exact hs i H' Kt Kf hi dp fun b H4 d4 hR => kk.yes _ _ (d4.app nD e) (Nat.lt_of_lt_of_le (show _ < 100001 by rw [List.length_map]; omega) (by decide)) fun H5 b5 g5 => ⟨Dr.mut (dp.trans d4) b5 hD nD.symm, us ++ [b], by rw [List.map_append]; rfl, by rw [List.length_append, hul]; rfl, fun j c hc => by
        by_cases hj : j < us.length
        · rw [List.getElem?_append_left hj] at hc; exact hub j c hc
        · have hj2 : j = i := by
            have := (List.getElem?_eq_some_iff.mp hc).1
            rw [List.length_append] at this
            simp at this; omega
          subst hj2
          rw [← hul, List.getElem?_concat_length] at hc
          cases hc; exact hR⟩)
    (fun acc H' p e => by
      obtain ⟨dp, us, rfl, hul, hub⟩ := p
      exact hd us H' dp hul hub nD e)
theorem lcLd (ρ0 : α → V) (ρ : β → V) (R : Nat → β → Prop) {ys : List α} (h0 : Src H1 s) (hD : H1 D = none) (na : a ≠ s) (hx : SqL K H1 a (ys.map ρ0)) (hn : ys.length ≤ 100000)
    (hs : ∀ (i : Nat) (y : α) (H : Hp) (Kt : V → Hp → Prop) (Kf : Hp → Prop), ys[i]? = some y → Dr s H1 H → (∀ b H4, Dr s H H4 → R i b → Kt (ρ b) H4) → LcT g tt te vs σ (ρ0 y) H Kt Kf)
    (hd : ∀ (us : List β) (H : Hp), Dr s H1 H → us.length = ys.length → (∀ (i : Nat) (b : β), us[i]? = some b → R i b) → D ≠ s → H D = some (.lst (us.map ρ)) → Qd H) : LcG (Itl K a) g tt te vs σ H1 D Qd :=
  have nD : D ≠ s := h0.ne hD
  lcL (fun i acc H' => Dr s H1 H' ∧ ∃ us : List β, acc = us.map ρ ∧ us.length = i ∧ ∀ (i : Nat) (b : β), us[i]? = some b → R i b)
    (fun H' s' _ => ⟨Dr.of h0 s', [], rfl, rfl, fun i b h => by cases h⟩) hD (fun i acc H' p => p.1.seq na hx) (fun i x acc H' Kt Kf hxi p e kk => by
      obtain ⟨y, hy, rfl⟩ := of_map hxi
      have hi := (List.getElem?_eq_some_iff.mp hy).1
      obtain ⟨dp, us, rfl, hul, hub⟩ := p
      exact hs i y H' Kt Kf hy dp fun b H4 d4 hR => kk.yes _ _ (d4.app nD e) (Nat.lt_of_lt_of_le (show _ < 100001 by rw [List.length_map]; omega) (by decide)) fun H5 b5 g5 => ⟨Dr.mut (dp.trans d4) b5 hD nD.symm, us ++ [b], by rw [List.map_append]; rfl, by rw [List.length_append, hul]; rfl, fun j c hc => by
        by_cases hj : j < us.length
        · rw [List.getElem?_append_left hj] at hc; exact hub j c hc
        · have hj2 : j = i := by
            have := (List.getElem?_eq_some_iff.mp hc).1
            rw [List.length_append] at this
            simp at this; omega
          subst hj2
          rw [← hul, List.getElem?_concat_length] at hc
          cases hc; exact hR⟩)
    (fun acc H' p e => by
      obtain ⟨dp, us, rfl, hul, hub⟩ := p
      rw [List.length_map] at hul
      exact hd us H' dp hul hub nD e)
/-- items that are new objects: R holds of each, as long as nothing but the list itself changes -/
theorem lcLs (ρ0 : α → V) {ys : List α} (R : Nat → V → Hp → Prop) (mono : ∀ i v H H' acc, R i v H → H D = some (.lst acc) → But D H H' → R i v H') (hD : H1 D = none) (hx : SqL K H1 a (ys.map ρ0)) (hn : ys.length ≤ 100000)
    (hs : ∀ (i : Nat) (y : α) (H : Hp) (Kt : V → Hp → Prop) (Kf : Hp → Prop) (acc : List V), ys[i]? = some y → Same H1 H → H D = some (.lst acc) → (∀ v H4, Same H H4 → R i v H4 → Kt v H4) → LcT g tt te vs σ (ρ0 y) H Kt Kf)
    (hd : ∀ (us : List V) (H : Hp), Same H1 H → us.length = ys.length → (∀ (i : Nat) (b : V), us[i]? = some b → R i b H) → H D = some (.lst us) → Qd H) : LcG (Itl K a) g tt te vs σ H1 D Qd :=
  lcL (fun i acc H' => Same H1 H' ∧ acc.length = i ∧ ∀ (i : Nat) (b : V), acc[i]? = some b → R i b H')
    (fun H' s' _ => ⟨s', rfl, fun i b h => by cases h⟩) hD (fun i acc H' p => p.1.seq hx) (fun i x acc H' Kt Kf hxi p e kk => by
      obtain ⟨y, hy, rfl⟩ := of_map hxi
      have hi := (List.getElem?_eq_some_iff.mp hy).1
      obtain ⟨dp, hul, hub⟩ := p
      exact hs i y H' Kt Kf acc hy dp e fun b H4 s4 hR => kk.yes _ _ (s4 _ _ e) (Nat.lt_of_lt_of_le (show _ < 100001 by omega) (by decide)) fun H5 b5 g5 => ⟨Same.mut' (dp.trans s4) b5 hD, by rw [List.length_append, hul]; rfl, fun j c hc => by
        by_cases hj : j < acc.length
        · rw [List.getElem?_append_left hj] at hc
          exact mono _ _ _ _ _ (mono _ _ _ _ _ (hub j c hc) e (Same.but s4)) (s4 _ _ e) b5
        · have hj2 : j = i := by
            have := (List.getElem?_eq_some_iff.mp hc).1
            rw [List.length_append] at this
            simp at this; omega
          subst hj2
          rw [← hul, List.getElem?_concat_length] at hc
          cases hc; exact mono _ _ _ _ _ hR (s4 _ _ e) b5⟩)
    (fun acc H' p e => by
      obtain ⟨dp, hul, hub⟩ := p
      rw [List.length_map] at hul
      exact hd acc H' dp hul hub e)
/-- over zip, by places -/
theorem lcZf {xs zs : List V} {n : Nat} (X Z f : Nat → V) (q : Nat → Bool) (lx : xs.length = n) (lz : zs.length = n) (hX : ∀ i, i < n → xs[i]? = some (X i)) (hZ : ∀ i, i < n → zs[i]? = some (Z i)) (hD : H1 D = none) (hx : SqL K H1 a xs) (hz : SqL K H1 b zs) (hn : n ≤ 100000)
    (hs : ∀ (i : Nat) (T : Addr) (H : Hp) (Kt : V → Hp → Prop) (Kf : Hp → Prop), i < n → Same H1 H → H T = some (.tup [X i, Z i]) → (q i = true → ∀ H4, Same H H4 → Kt (f i) H4) → (q i = false → ∀ H4, Same H H4 → Kf H4) → LcT g tt te vs σ (.ref T) H Kt Kf)
    (hd : ∀ H, Same H1 H → H D = some (.lst (((List.range n).filter q).map f)) → Qd H) : LcG (Itz K a b) g tt te vs σ H1 D Qd :=
  lcZq (xs := xs) (zs := zs) (ysF f q (List.range n)) (by rw [lx, lz]) hD hx hz (by omega) (fun i x z T H Kt Kf hxi hzi s gT qq => by
    have hi : i < n := by have := (List.getElem?_eq_some_iff.mp hxi).1; omega
    rw [hX i hi] at hxi
    rw [hZ i hi] at hzi
    cases hxi
    cases hzi
    exact hs i T H Kt Kf hi s gT (fun e H4 s4 => qq.yes _ _ s4 (by unfold ysF; rw [range_get hi]; exact if_pos e)) (fun e H4 s4 => qq.no _ s4 (by unfold ysF; rw [range_get hi]; exact if_neg (by rw [e]; simp))))
    (fun H s h => hd H s (by have := ysF_all f q (List.range n); rw [List.length_range] at this; rw [h, lx, this]))
theorem lcZm {xs zs : List V} {n : Nat} (X Z f : Nat → V) (lx : xs.length = n) (lz : zs.length = n) (hX : ∀ i, i < n → xs[i]? = some (X i)) (hZ : ∀ i, i < n → zs[i]? = some (Z i)) (hD : H1 D = none) (hx : SqL K H1 a xs) (hz : SqL K H1 b zs) (hn : n ≤ 100000)
    (hs : ∀ (i : Nat) (T : Addr) (H : Hp) (Kt : V → Hp → Prop) (Kf : Hp → Prop), i < n → Same H1 H → H T = some (.tup [X i, Z i]) → (∀ H4, Same H H4 → Kt (f i) H4) → LcT g tt te vs σ (.ref T) H Kt Kf)
    (hd : ∀ H, Same H1 H → H D = some (.lst ((List.range n).map f)) → Qd H) : LcG (Itz K a b) g tt te vs σ H1 D Qd :=
  lcZf X Z f (fun _ => true) lx lz hX hZ hD hx hz hn (fun i T H Kt Kf hi s gT h _ => hs i T H Kt Kf hi s gT (h rfl)) (fun H s h => hd H s (by rw [h, List.filter_eq_self.mpr fun _ _ => rfl]))
end
end My

open PySem L2 My
/-! ### short steps -/
local macro_rules | `(tactic| tm_at "hp") => `(tactic| first
  | with_reducible assumption
  | exact upd_same
  | (with_reducible refine upd_keep ?hpn ?hpr; (case hpn => with_reducible assumption); (case hpr => tm_at "hp"))
  | (refine Eq.trans (upd_ne ?hpn) ?hpr; (case hpn => tm_at "ne"); (case hpr => tm_at "hp"))
  | (refine' Same.app ?hps ?hpr; (case hps => with_reducible assumption); (case hpr => tm_at "hp"))
  | (refine' Dr.app ?hps ?hpn ?hpr; (case hps => with_reducible assumption); (case hpr => tm_at "hp"); (case hpn => tm_at "ne"))
  | (refine' But.app ?hps ?hpn ?hpr; (case hps => with_reducible assumption); (case hpr => tm_at "hp"); (case hpn => tm_at "ne")))
local macro_rules | `(tactic| tm_at "ne") => `(tactic| first
  | with_reducible assumption
  | (with_reducible refine Ne.symm ?nes; (case nes => with_reducible assumption))
  | (refine' ne_of_none ?nea ?neb; (case neb => with_reducible assumption); (case nea => tm_at "hp"))
  | (refine' Src.ne ?nea ?neb; (case neb => with_reducible assumption); (case nea => tm_at "sr"))
  | (refine' Ne.symm (Src.ne ?nea ?neb); (case neb => with_reducible assumption); (case nea => tm_at "sr"))
  | (refine' Ne.symm (ne_of_none ?nea ?neb); (case neb => with_reducible assumption); (case nea => tm_at "hp")))
/-- a list, a tuple that stands -/
local macro_rules | `(tactic| tm_at "sql") => `(tactic| first
  | with_reducible assumption
  | (refine sqL ?sqa; (case sqa => tm_at "hp"))
  | (refine' Same.seq ?sqs ?sqa; (case sqs => with_reducible assumption); (case sqa => tm_at "sql"))
  | (refine' Dr.seq ?sqs ?sqn ?sqa; (case sqs => with_reducible assumption); (case sqa => tm_at "sql"); (case sqn => tm_at "ne"))
  | (refine' But.seq ?sqs ?sqn ?sqa; (case sqs => with_reducible assumption); (case sqa => tm_at "sql"); (case sqn => tm_at "ne")))
/-- all but a stands; all stands -/
local macro_rules | `(tactic| tm_at "bt") => `(tactic| first
  | with_reducible assumption
  | with_reducible exact But.refl
  | (with_reducible refine But.upd ?btx; (case btx => tm_at "bt"))
  | (with_reducible refine But.new ?btx ?bty; (case bty => with_reducible assumption); (case btx => tm_at "bt"))
  | (refine' But.trans ?btx ?bty; (case bty => with_reducible assumption); (case btx => tm_at "bt"))
  | (refine' But.trans ?btx (Same.but ?bty); (case bty => with_reducible assumption); (case btx => tm_at "bt")))
local macro_rules | `(tactic| tm_at "sm") => `(tactic| first
  | with_reducible assumption
  | with_reducible exact Same.refl _
  | (with_reducible refine Same.new ?btx ?bty; (case bty => with_reducible assumption); (case btx => tm_at "sm"))
  | (with_reducible refine Same.mut ?btx ?bty; (case bty => with_reducible assumption); (case btx => tm_at "sm"))
  | (refine' Same.mut' ?btx ?bty ?btn; (case bty => with_reducible assumption); (case btx => tm_at "sm"); (case btn => tm_at "fr"))
  | (refine' Same.trans ?btx ?bty; (case bty => with_reducible assumption); (case btx => tm_at "sm")))
/-- the source stands; draws from there to here -/
local macro_rules | `(tactic| tm_at "sr") => `(tactic| first
  | with_reducible assumption
  | (refine' Dr.s ?srd; (case srd => with_reducible assumption))
  | (refine' Src.same ?srh ?srd; (case srd => with_reducible assumption); (case srh => tm_at "sr"))
  | (refine' Src.but ?srh ?srd ?srn; (case srd => with_reducible assumption); (case srh => tm_at "sr"); (case srn => tm_at "ne")))
local macro_rules | `(tactic| tm_at "dr") => `(tactic| first
  | with_reducible assumption
  | (refine' Dr.trans ?drx ?dry; (case dry => with_reducible assumption); (case drx => tm_at "dr"))
  | (refine' Dr.same ?drx ?dry; (case dry => with_reducible assumption); (case drx => tm_at "dr"))
  | (refine' Dr.mut ?drx ?dry ?drn ?drm; (case dry => with_reducible assumption); (case drx => tm_at "dr"); (case drn => tm_at "fr"); (case drm => tm_at "ne"))
  | (refine' Dr.of ?drx ?dry; (case drx => tm_at "sr"); (case dry => tm_at "sm"))
  | (refine Dr.refl ?drx; (case drx => tm_at "sr")))
/-- nothing stood there -/
local macro_rules | `(tactic| tm_at "fr") => `(tactic| first
  | with_reducible assumption
  | (refine' Same.free ?frs ?frh; (case frh => with_reducible assumption); (case frs => tm_at "sm"))
  | (refine' Dr.free ?frs ?frh ?frn; (case frh => with_reducible assumption); (case frs => tm_at "dr"); (case frn => tm_at "ne")))
/-- an int's condition -/
local macro_rules | `(tactic| tm_at "ic") => `(tactic| first
  | assumption
  | omega
  | exact Nat.le_of_ble_eq_true rfl
  | exact ⟨by decide, by decide +kernel⟩
  | exact Or.inr ⟨by omega, by omega⟩
  | exact Or.inl ⟨by omega, by omega⟩
  | exact Or.inr ⟨by decide, by decide⟩
  | exact ⟨by decide, by decide, by decide⟩
  | exact wide_div (b := 64) (by omega) (by omega) (by decide) (by decide)
  | decide
  | tm_at "sr")
/-- a plain thing's kind -/
local macro_rules | `(tactic| tm_at "t7") => `(tactic| first
  | with_reducible assumption
  | with_reducible exact Ty7.int _
  | with_reducible exact Ty7.bl _
  | with_reducible exact Ty7.non
  | with_reducible exact Ty7.str _
  | (refine' Ty7.lst ?t7h; (case t7h => tm_at "hp"))
  | (refine' Ty7.tup ?t7h; (case t7h => tm_at "hp")))
/-- one step of a reading -/
local macro_rules | `(tactic| tm_at "rd") => `(tactic| first
  | refine ⟨_, rfl, ?_⟩
  | refine ⟨_, _, rfl, rfl, ?_⟩
  | (refine And.intro ?rdc ?_; (case rdc => (first | tm_at "ic" | (dsimp only; tm_at "ic"))))
  | refine ⟨_, _, rfl, ?_⟩
  | refine ⟨rfl, ?_⟩
  | (refine' ⟨_, _, rfl, ?rd7, ?_⟩; (case rd7 => tm_at "t7"))
  | (refine' ⟨_, _, rfl, Or.inl ⟨_, ?rdl, rfl⟩, ?_⟩; (case rdl => tm_at "sql"))
  | refine Or.inl ⟨_, rfl, ?_⟩
  | refine Or.inr ⟨_, rfl, ?_⟩)
local macro_rules | `(tactic| tm_at "rds") => `(tactic| repeat (tm_at "rd"))
/-- a tuple that stands -/
local macro_rules | `(tactic| tm_at "sqt") => `(tactic| first
  | with_reducible assumption
  | (refine sqT ?sqa; (case sqa => tm_at "hp"))
  | (refine' Same.seqT ?sqs ?sqa; (case sqs => with_reducible assumption); (case sqa => tm_at "sqt"))
  | (refine' Dr.seqT ?sqs ?sqn ?sqa; (case sqs => with_reducible assumption); (case sqa => tm_at "sqt"); (case sqn => tm_at "ne")))
/-- more steps: tests that are plain, items by a plain index, the length of a tuple -/
local macro_rules | `(tactic| tm_at "rz") => `(tactic| first
  | (refine' And.intro (Or.inl (And.intro rfl (Exists.intro _ ?rzt))) ?_; (case rzt => tm_at "sql"))
  | tm_at "rd"
  | (refine' ⟨_, _, rfl, Or.inr ⟨_, ?rdl, rfl⟩, ?_⟩; (case rdl => tm_at "sqt"))
  | (refine' ⟨_, _, _, _, rfl, rfl, ?rzl, ?rzi, ?_⟩; (case rzl => (first | tm_at "sql" | tm_at "sqt")); (case rzi => exact rfl))
  | (refine iteF' ?rzb ?_; (case rzb => (first | with_reducible rfl | rfl | decide)))
  | (refine iteT' ?rzb ?_; (case rzb => (first | with_reducible rfl | rfl | decide))))
local macro_rules | `(tactic| tm_at "rzs") => `(tactic| repeat (tm_at "rz"))
/-- .. up to an if that has something behind it -/
local macro_rules | `(tactic| tm_at "rzi") => `(tactic| repeat ((try dsimp only [gName]); (fail_if_success (with_reducible refine isIf ?_)); tm_at "rz"))
namespace My
open PySem PySem.Spec PyProof.Rows L2
def top (i : Nat) : Stmt := PySem.Challenge.pw_nestlaid_k07_whole_one_level_from_both_s.main.body.getD i (.Pass ⟨0, 0, 0, 0⟩)
abbrev s_is_whole : Stmt := top 4
abbrev N_is_whole : List Str := ["thing"]
theorem sc_is_whole : FnScope N_is_whole ["thing"] (defScope s_is_whole) := ⟨rfl, rfl, rfl, by decide +kernel, rfl, by decide +kernel, by decide +kernel⟩
abbrev s_is_from_nought : Stmt := top 5
abbrev N_is_from_nought : List Str := ["thing"]
theorem sc_is_from_nought : FnScope N_is_from_nought ["thing"] (defScope s_is_from_nought) := ⟨rfl, rfl, rfl, by decide +kernel, rfl, by decide +kernel, by decide +kernel⟩
abbrev s_check_total : Stmt := top 6
abbrev N_check_total : List Str := ["total"]
theorem sc_check_total : FnScope N_check_total ["total"] (defScope s_check_total) := ⟨rfl, rfl, rfl, by decide +kernel, rfl, by decide +kernel, by decide +kernel⟩
abbrev s_check_weights : Stmt := top 7
abbrev N_check_weights : List Str := ["weights", "many", "one"]
theorem sc_check_weights : FnScope N_check_weights ["weights", "many"] (defScope s_check_weights) := ⟨rfl, rfl, rfl, by decide +kernel, rfl, by decide +kernel, by decide +kernel⟩
abbrev s_lowest : Stmt := top 8
abbrev N_lowest : List Str := ["top", "bottom", "one", "other"]
theorem sc_lowest : FnScope N_lowest ["top", "bottom"] (defScope s_lowest) := ⟨rfl, rfl, rfl, by decide +kernel, rfl, by decide +kernel, by decide +kernel⟩
abbrev s_running : Stmt := top 9
abbrev N_running : List Str := ["level", "weights", "chosen", "top", "bottom", "behind", "ahead", "found", "at"]
theorem sc_running : FnScope N_running ["level", "weights", "chosen"] (defScope s_running) := ⟨rfl, rfl, rfl, by decide +kernel, rfl, by decide +kernel, by decide +kernel⟩
abbrev s_dealt_parts : Stmt := top 10
abbrev N_dealt_parts : List Str := ["total", "caps", "weights", "at", "rest", "found", "whole", "full", "level", "got", "weight"]
theorem sc_dealt_parts : FnScope N_dealt_parts ["total", "caps", "weights"] (defScope s_dealt_parts) := ⟨rfl, rfl, rfl, by decide +kernel, rfl, by decide +kernel, by decide +kernel⟩
abbrev s_levelled_parts : Stmt := top 11
abbrev N_levelled_parts : List Str := ["total", "floors", "weights", "at", "rest", "found", "high", "whole", "level", "got", "weight", "floor"]
theorem sc_levelled_parts : FnScope N_levelled_parts ["total", "floors", "weights"] (defScope s_levelled_parts) := ⟨rfl, rfl, rfl, by decide +kernel, rfl, by decide +kernel, by decide +kernel⟩
abbrev s_dealt : Stmt := top 12
abbrev N_dealt : List Str := ["total", "caps", "weights", "cap"]
theorem sc_dealt : FnScope N_dealt ["total", "caps", "weights"] (defScope s_dealt) := ⟨rfl, rfl, rfl, by decide +kernel, rfl, by decide +kernel, by decide +kernel⟩
abbrev s_levelled : Stmt := top 13
abbrev N_levelled : List Str := ["total", "floors", "weights"]
theorem sc_levelled : FnScope N_levelled ["total", "floors", "weights"] (defScope s_levelled) := ⟨rfl, rfl, rfl, by decide +kernel, rfl, by decide +kernel, by decide +kernel⟩
abbrev s_w_cell_at : Stmt := top 15
abbrev N_w_cell_at : List Str := ["_law_script", "_law_k"]
theorem sc_w_cell_at : FnScope N_w_cell_at ["_law_script", "_law_k"] (defScope s_w_cell_at) := ⟨rfl, rfl, rfl, by decide +kernel, rfl, by decide +kernel, by decide +kernel⟩
abbrev s_w_mixed : Stmt := top 16
abbrev N_w_mixed : List Str := ["_law_cell", "_law_k", "_law_low"]
theorem sc_w_mixed : FnScope N_w_mixed ["_law_cell", "_law_k"] (defScope s_w_mixed) := ⟨rfl, rfl, rfl, by decide +kernel, rfl, by decide +kernel, by decide +kernel⟩
abbrev s_w_source : Stmt := top 17
abbrev N_w_source : List Str := ["_law_cell"]
theorem sc_w_source : FnScope N_w_source ["_law_cell"] (defScope s_w_source) := ⟨rfl, rfl, rfl, by decide +kernel, rfl, by decide +kernel, by decide +kernel⟩
abbrev s_w_next : Stmt := top 18
abbrev N_w_next : List Str := ["_law_source_here", "_law_many", "_law_found"]
theorem sc_w_next : FnScope N_w_next ["_law_source_here", "_law_many"] (defScope s_w_next) := ⟨rfl, rfl, rfl, by decide +kernel, rfl, by decide +kernel, by decide +kernel⟩
abbrev s_w_bounds : Stmt := top 19
abbrev N_w_bounds : List Str := ["_law_source_here", "_law_many", "_law_far", "_law_found", "_law_k", "_law_way", "_law_one"]
theorem sc_w_bounds : FnScope N_w_bounds ["_law_source_here", "_law_many"] (defScope s_w_bounds) := ⟨rfl, rfl, rfl, by decide +kernel, rfl, by decide +kernel, by decide +kernel⟩
abbrev s_w_total : Stmt := top 20
abbrev N_w_total : List Str := ["_law_source_here", "_law_bounds_here", "_law_most", "_law_some"]
theorem sc_w_total : FnScope N_w_total ["_law_source_here", "_law_bounds_here"] (defScope s_w_total) := ⟨rfl, rfl, rfl, by decide +kernel, rfl, by decide +kernel, by decide +kernel⟩
abbrev s_w_exact_right : Stmt := top 21
abbrev N_w_exact_right : List Str := ["_law_level", "_law_total_here", "_law_bounds_here", "_law_weights", "_law_top", "_law_bottom", "_law_parts", "_law_less", "_law_due", "_law_rest", "_law_more", "_law_both", "_law_bound", "_law_weight", "_law_part", "_law_one", "_law_other"]
theorem sc_w_exact_right : FnScope N_w_exact_right ["_law_level", "_law_total_here", "_law_bounds_here", "_law_weights"] (defScope s_w_exact_right) := ⟨rfl, rfl, rfl, by decide +kernel, rfl, by decide +kernel, by decide +kernel⟩
abbrev s_law : Stmt := top 22
abbrev N_law : List Str := ["_law_script", "_law_cell", "_law_source_here", "_law_many", "_law_bounds_here", "_law_far", "_law_weights", "_law_total_here", "_law_level", "_law_told", "_law_other", "_law_k"]
theorem sc_law : FnScope N_law ["_law_script"] (defScope s_law) := ⟨rfl, rfl, rfl, by decide +kernel, rfl, by decide +kernel, by decide +kernel⟩
structure Tx (K : PySem.W.Frag) (mg : Str → Option Value) where
  d_is_whole : Df K mg "is_whole" s_is_whole ["thing"]
  d_is_from_nought : Df K mg "is_from_nought" s_is_from_nought ["thing"]
  d_check_total : Df K mg "check_total" s_check_total ["total"]
  d_check_weights : Df K mg "check_weights" s_check_weights ["weights", "many"]
  d_lowest : Df K mg "lowest" s_lowest ["top", "bottom"]
  d_running : Df K mg "running" s_running ["level", "weights", "chosen"]
  d_dealt_parts : Df K mg "dealt_parts" s_dealt_parts ["total", "caps", "weights"]
  d_levelled_parts : Df K mg "levelled_parts" s_levelled_parts ["total", "floors", "weights"]
  d_dealt : Df K mg "dealt" s_dealt ["total", "caps", "weights"]
  d_levelled : Df K mg "levelled" s_levelled ["total", "floors", "weights"]
  d_w_cell_at : Df K mg "_law_cell_at" s_w_cell_at ["_law_script", "_law_k"]
  d_w_mixed : Df K mg "_law_mixed" s_w_mixed ["_law_cell", "_law_k"]
  d_w_source : Df K mg "_law_source" s_w_source ["_law_cell"]
  d_w_next : Df K mg "_law_next" s_w_next ["_law_source_here", "_law_many"]
  d_w_bounds : Df K mg "_law_bounds" s_w_bounds ["_law_source_here", "_law_many"]
  d_w_total : Df K mg "_law_total" s_w_total ["_law_source_here", "_law_bounds_here"]
  d_w_exact_right : Df K mg "_law_exact_right" s_w_exact_right ["_law_level", "_law_total_here", "_law_bounds_here", "_law_weights"]
  d_law : Df K mg "law" s_law ["_law_script"]
  b_all : mg "all" = none
  b_bool : mg "bool" = none
  b_enumerate : mg "enumerate" = none
  b_int : mg "int" = none
  b_isinstance : mg "isinstance" = none
  b_len : mg "len" = none
  b_list : mg "list" = none
  b_max : mg "max" = none
  b_min : mg "min" = none
  b_range : mg "range" = none
  b_sum : mg "sum" = none
  b_zip : mg "zip" = none
end My
/-! ### totals dealt by caps and weights: plain mathematics -/
namespace My
open PySem L2
/-- the sum of f over some places -/
def S (f : Nat → Int) (R : List Nat) : Int := (R.map f).sum
theorem S_nil (f : Nat → Int) : S f [] = 0 := rfl
theorem S_cons (f : Nat → Int) (i : Nat) (R : List Nat) : S f (i :: R) = f i + S f R := by unfold S; rw [List.map_cons, List.sum_cons]
theorem S_append (f : Nat → Int) (R T : List Nat) : S f (R ++ T) = S f R + S f T := by unfold S; rw [List.map_append, List.sum_append]
theorem S_nonneg {f : Nat → Int} : ∀ {R : List Nat}, (∀ i ∈ R, 0 ≤ f i) → 0 ≤ S f R
  | [], _ => Int.le_refl 0
  | i :: R, h => by
    rw [S_cons]
    have h1 := h i (List.mem_cons_self ..)
    have h2 := S_nonneg (R := R) fun j hj => h j (List.mem_cons_of_mem _ hj)
    omega
theorem S_le {f g : Nat → Int} : ∀ {R : List Nat}, (∀ i ∈ R, f i ≤ g i) → S f R ≤ S g R
  | [], _ => Int.le_refl 0
  | i :: R, h => by
    rw [S_cons, S_cons]
    have h1 := h i (List.mem_cons_self ..)
    have h2 := S_le (R := R) fun j hj => h j (List.mem_cons_of_mem _ hj)
    omega
theorem S_lt {f g : Nat → Int} : ∀ {R : List Nat}, (∀ i ∈ R, f i < g i) → R ≠ [] → S f R < S g R
  | [], _, h => absurd rfl h
  | i :: R, h, _ => by
    rw [S_cons, S_cons]
    have h1 := h i (List.mem_cons_self ..)
    have h2 := S_le (R := R) fun j hj => Int.le_of_lt (h j (List.mem_cons_of_mem _ hj))
    omega
theorem S_congr {f g : Nat → Int} : ∀ {R : List Nat}, (∀ i ∈ R, f i = g i) → S f R = S g R
  | [], _ => rfl
  | i :: R, h => by
    rw [S_cons, S_cons, h i (List.mem_cons_self ..), S_congr (R := R) fun j hj => h j (List.mem_cons_of_mem _ hj)]
theorem S_mul (c : Int) (f : Nat → Int) : ∀ R : List Nat, S (fun i => c * f i) R = c * S f R
  | [] => (Int.mul_zero c).symm
  | i :: R => by rw [S_cons, S_cons, S_mul c f R, Int.mul_add]
theorem S_mul_r (c : Int) (f : Nat → Int) : ∀ R : List Nat, S (fun i => f i * c) R = S f R * c
  | [] => (Int.zero_mul c).symm
  | i :: R => by rw [S_cons, S_cons, S_mul_r c f R, Int.add_mul]
theorem S_split (f : Nat → Int) (p : Nat → Bool) : ∀ R : List Nat, S f R = S f (R.filter p) + S f (R.filter fun i => !p i)
  | [] => rfl
  | i :: R => by
    rw [S_cons, S_split f p R, List.filter_cons, List.filter_cons]
    cases h : p i with
    | true => simp only [Bool.not_true, if_true, Bool.false_eq_true, if_false]; rw [S_cons]; omega
    | false => simp only [Bool.not_false, if_true, Bool.false_eq_true, if_false]; rw [S_cons]; omega
theorem S_bound {f : Nat → Int} {c : Int} : ∀ {R : List Nat}, (∀ i ∈ R, f i ≤ c) → S f R ≤ c * R.length
  | [], _ => by simp [S_nil]
  | i :: R, h => by
    rw [S_cons, List.length_cons]
    have h1 := h i (List.mem_cons_self ..)
    have h2 := S_bound (R := R) fun j hj => h j (List.mem_cons_of_mem _ hj)
    have e : c * ((R.length + 1 : Nat) : Int) = c * R.length + c := by rw [Int.natCast_add, Int.mul_add]; simp
    omega
abbrev natsV (ch : List Nat) : List V := ch.map fun i : Nat => V.int (i : Int)
def wAt (ws : List Int) (i : Nat) : Int := ws.getD i 0
/-! #### the level -/
/-- what the removed ones keep: cap ≤ level times weight, while the level T / W only rises -/
theorem rise {T W C V : Int} (hW : 0 < W) (hC : C * W ≤ T * V) : T * (W - V) ≤ (T - C) * W := by
  rw [Int.mul_sub, Int.sub_mul]; omega
theorem keep_cap {c w T W T' W' : Int} (hW : 0 < W) (hw : 0 ≤ w) (hW' : 0 ≤ W') (h : c * W ≤ T * w) (hr : T * W' ≤ T' * W) : c * W' ≤ T' * w := by
  have h1 : c * W * W' ≤ T * w * W' := Int.mul_le_mul_of_nonneg_right h hW'
  have h2 : T * W' * w ≤ T' * W * w := Int.mul_le_mul_of_nonneg_right hr hw
  have e1 : c * W * W' = c * W' * W := by rw [Int.mul_assoc, Int.mul_comm W W', ← Int.mul_assoc]
  have e2 : T * w * W' = T * W' * w := by rw [Int.mul_assoc, Int.mul_comm w W', ← Int.mul_assoc]
  have e3 : T' * W * w = T' * w * W := by rw [Int.mul_assoc, Int.mul_comm W w, ← Int.mul_assoc]
  exact Int.le_of_mul_le_mul_right (by rw [← e1, ← e3]; omega) hW
/-- behind the rest: what is weighed so far -/
def pre (w : Nat → Int) (p : Nat → Bool) : Nat → Int
  | 0 => 0
  | i + 1 => pre w p i + if p i then w i else 0
/-- what one gets by running sums -/
def part (t b beh w : Int) : Int := t * (beh + w) / b - t * beh / b
/-- the pairs that running tells -/
def runD (t b : Int) (w : Nat → Int) : List Nat → Int → List (Nat × Int)
  | [], _ => []
  | i :: r, beh => (i, part t b beh (w i)) :: runD t b w r (beh + w i)
theorem runD_append (t b : Int) (w : Nat → Int) (i : Nat) : ∀ (l : List Nat) (beh : Int), runD t b w (l ++ [i]) beh = runD t b w l beh ++ [(i, part t b (beh + S w l) (w i))]
  | [], beh => by simp [runD, S_nil]
  | j :: l, beh => by
    rw [List.cons_append]
    simp only [runD]
    rw [runD_append t b w i l (beh + w j), S_cons, Int.add_assoc, List.cons_append]
theorem runD_fst (t b : Int) (w : Nat → Int) : ∀ (l : List Nat) (beh : Int), (runD t b w l beh).map (·.1) = l
  | [], _ => rfl
  | i :: l, beh => by simp only [runD, List.map_cons]; rw [runD_fst t b w l]
theorem pre_eq (w : Nat → Int) (p : Nat → Bool) : ∀ n, pre w p n = S w ((List.range n).filter p)
  | 0 => rfl
  | n + 1 => by
    rw [List.range_succ, List.filter_append, S_append, ← pre_eq w p n]
    simp only [pre, List.filter_cons, List.filter_nil]
    cases p n <;> simp [S_cons, S_nil]
theorem runD_range (t b : Int) (w : Nat → Int) (p : Nat → Bool) : ∀ n, ∀ q ∈ runD t b w ((List.range n).filter p) 0, p q.1 = true ∧ q.1 < n ∧ q.2 = part t b (pre w p q.1) (w q.1)
  | 0, q, h => by simp [runD] at h
  | n + 1, q, h => by
    rw [List.range_succ, List.filter_append] at h
    cases hp : p n with
    | false =>
      rw [List.filter_cons, hp] at h
      simp only [Bool.false_eq_true, if_false, List.filter_nil, List.append_nil] at h
      obtain ⟨h1, h2, h3⟩ := runD_range t b w p n q h
      exact ⟨h1, by omega, h3⟩
    | true =>
      rw [List.filter_cons, hp] at h
      simp only [if_true, List.filter_nil] at h
      rw [runD_append] at h
      rcases List.mem_append.mp h with h | h
      · obtain ⟨h1, h2, h3⟩ := runD_range t b w p n q h
        exact ⟨h1, by omega, h3⟩
      · simp only [List.mem_singleton] at h
        subst h
        exact ⟨hp, by simp, by simp [pre_eq]⟩
/-- found, set by pairs -/
def putAll (f : List Int) (ps : List (Nat × Int)) : List Int := ps.foldl (fun f q => f.set q.1 q.2) f
theorem putAll_len : ∀ (ps : List (Nat × Int)) (f : List Int), (putAll f ps).length = f.length
  | [], _ => rfl
  | q :: ps, f => by
    show (putAll (f.set q.1 q.2) ps).length = _
    rw [putAll_len ps, List.length_set]
theorem putAll_out {i : Nat} : ∀ (ps : List (Nat × Int)) (f : List Int), i ∉ ps.map (·.1) → (putAll f ps)[i]? = f[i]?
  | [], _, _ => rfl
  | q :: ps, f, h => by
    show (putAll (f.set q.1 q.2) ps)[i]? = _
    rw [List.map_cons, List.mem_cons, not_or] at h
    rw [putAll_out ps _ h.2, List.getElem?_set_ne (fun e => h.1 e.symm)]
theorem putAll_in {g : Nat → Int} {i : Nat} : ∀ (ps : List (Nat × Int)) (f : List Int), (∀ q ∈ ps, q.2 = g q.1) → i ∈ ps.map (·.1) → i < f.length → (putAll f ps)[i]? = some (g i)
  | [], _, _, h, _ => by simp at h
  | q :: ps, f, hg, h, hl => by
    show (putAll (f.set q.1 q.2) ps)[i]? = _
    by_cases hm : i ∈ ps.map (·.1)
    · exact putAll_in ps _ (fun r hr => hg r (List.mem_cons_of_mem _ hr)) hm (by rw [List.length_set]; exact hl)
    · rw [putAll_out ps _ hm]
      rw [List.map_cons, List.mem_cons] at h
      rcases h with e | h
      · subst e
        rw [List.getElem?_set_self hl, hg q (List.mem_cons_self ..)]
      · exact absurd h hm
/-! #### the spec, and the loop -/
def capN (cap : Nat → Option Int) (i : Nat) : Int := (cap i).getD 0
/-- who has weight -/
def wtd (n : Nat) (w : Nat → Int) : List Nat := (List.range n).filter fun i => decide (0 < w i)
/-- the cap is no more than level times weight -/
def heldB (t b : Int) (w : Nat → Int) (cap : Nat → Option Int) (i : Nat) : Bool := match cap i with
  | some c => decide (c * b ≤ t * w i)
  | none => false
/-- who is dealt to by the level -/
def restB (t b : Int) (w : Nat → Int) (cap : Nat → Option Int) (i : Nat) : Bool := decide (0 < w i) && !heldB t b w cap i
def less (c : Option Int) (b x : Int) : Int := match c with
  | some c => min (c * b) x
  | none => x
structure Dealt (n : Nat) (w : Nat → Int) (cap : Nat → Option Int) (total : Int) (lv : Option (Int × Int)) (fs : List Int) : Prop where
  len : fs.length = n
  zero : ∀ i, i < n → w i ≤ 0 → fs[i]? = some 0
  non : lv = none → (∀ i, i < n → 0 < w i → ∃ c, cap i = some c ∧ fs[i]? = some c) ∧ S (capN cap) (wtd n w) ≤ total
  lev : ∀ t b, lv = some (t, b) → 0 ≤ t ∧ 0 < b ∧ Int.gcd t b = 1 ∧ ¬ ((∀ i, i < n → 0 < w i → (cap i).isSome = true) ∧ S (capN cap) (wtd n w) ≤ total) ∧
    S (fun i => less (cap i) b (t * w i)) (wtd n w) = total * b ∧
    ∀ i, i < n → 0 < w i → fs[i]? = some (if heldB t b w cap i then capN cap i else part t b (pre w (restB t b w cap) i) (w i))
/-- between two turns: who is left (p), what is left (T) -/
structure DI (n : Nat) (w : Nat → Int) (cap : Nat → Option Int) (total : Int) (p : Nat → Bool) (T : Int) (f : List Int) : Prop where
  len : f.length = n
  pw : ∀ i, i < n → p i = true → 0 < w i
  tn : 0 ≤ T
  out : ∀ i, i < n → 0 < w i → p i = false → ∃ c, cap i = some c ∧ f[i]? = some c ∧ c * S w ((List.range n).filter p) ≤ T * w i
  yet : ∀ i, i < n → (p i = true ∨ w i ≤ 0) → f[i]? = some 0
  sum : T + S (capN cap) ((List.range n).filter fun i => decide (0 < w i) && !p i) = total
section
variable {n : Nat} {w : Nat → Int} {cap : Nat → Option Int} {total T : Int} {p : Nat → Bool} {f : List Int}
theorem filter_congr' {q r : Nat → Bool} {l : List Nat} (h : ∀ i ∈ l, q i = r i) : l.filter q = l.filter r := List.filter_congr h
theorem DI.start (h0 : 0 ≤ total) : DI n w cap total (fun i => decide (0 < w i)) total (List.replicate n 0) := by
  refine ⟨List.length_replicate, fun i _ h => of_decide_eq_true h, h0, fun i _ h1 h2 => absurd h1 (of_decide_eq_false h2), fun i hi _ => by rw [List.getElem?_replicate, if_pos hi], ?_⟩
  have e : ((List.range n).filter fun i => decide (0 < w i) && !decide (0 < w i)) = [] := by
    rw [List.filter_eq_nil_iff]
    intro i _
    cases decide (0 < w i) <;> simp
  rw [e, S_nil]; omega
/-- nobody is left -/
theorem DI.fin0 (d : DI n w cap total p T f) (he : (List.range n).filter p = []) : Dealt n w cap total none f := by
  have hp : ∀ i, i < n → p i = false := fun i hi => by
    have := List.filter_eq_nil_iff.mp he i (List.mem_range.mpr hi)
    simpa using this
  refine ⟨d.len, fun i hi h => d.yet i hi (.inr h), fun _ => ⟨fun i hi h => ?_, ?_⟩, fun t b h => by cases h⟩
  · obtain ⟨c, h1, h2, _⟩ := d.out i hi h (hp i hi)
    exact ⟨c, h1, h2⟩
  · have e : wtd n w = ((List.range n).filter fun i => decide (0 < w i) && !p i) := filter_congr' fun i hi => by
      rw [hp i (List.mem_range.mp hi)]; simp
    rw [e]
    have := d.sum
    have := d.tn
    omega
/-- who has no more than level times weight as a cap -/
def fullB (T W : Int) (w : Nat → Int) (cap : Nat → Option Int) (i : Nat) : Bool := heldB T W w cap i
theorem S_pos {R : List Nat} (h : ∀ i ∈ R, 0 < w i) (hne : R ≠ []) : 0 < S w R := by
  have := S_lt (f := fun _ => 0) (g := w) h hne
  have e : S (fun _ => 0) R = 0 := by
    have : ∀ R : List Nat, S (fun _ => 0) R = 0 := fun R => by
      induction R with
      | nil => rfl
      | cons i R ih => rw [S_cons, ih]; rfl
    exact this R
  omega
theorem heldB_some {t b : Int} {i : Nat} (h : heldB t b w cap i = true) : ∃ c, cap i = some c ∧ c * b ≤ t * w i := by
  unfold heldB at h
  cases e : cap i with
  | none => rw [e] at h; cases h
  | some c => rw [e] at h; exact ⟨c, rfl, of_decide_eq_true h⟩
theorem heldB_iff {t b c : Int} {i : Nat} (e : cap i = some c) : heldB t b w cap i = decide (c * b ≤ t * w i) := by
  unfold heldB
  rw [e]
theorem filter_and (q r : Nat → Bool) (l : List Nat) : (l.filter q).filter r = l.filter fun i => q i && r i := by
  rw [List.filter_filter]
  exact List.filter_congr fun i _ => by rw [Bool.and_comm]
/-- one turn -/
theorem DI.turn (d : DI n w cap total p T f) (W : Int) (hW : W = S w ((List.range n).filter p)) (hne : (List.range n).filter p ≠ []) (full : List Nat) (hfull : full = ((List.range n).filter p).filter (heldB T W w cap)) :
    DI n w cap total (fun i => p i && !heldB T W w cap i) (T - S (capN cap) full) (putAll f (full.map fun i => (i, capN cap i))) := by
  have hpos : ∀ i ∈ (List.range n).filter p, 0 < w i := fun i hi => by
    obtain ⟨h1, h2⟩ := List.mem_filter.mp hi
    exact d.pw i (List.mem_range.mp h1) h2
  have W0 : 0 < W := by rw [hW]; exact S_pos hpos hne
  have mfull : ∀ i, i ∈ full ↔ (i < n ∧ p i = true) ∧ heldB T W w cap i = true := fun i => by
    rw [hfull, List.mem_filter, List.mem_filter, List.mem_range]
  -- C * W ≤ T * V
  have hC : S (capN cap) full * W ≤ T * S w full := by
    rw [← S_mul_r, ← S_mul]
    refine S_le fun i hi => ?_
    obtain ⟨c, e, h⟩ := heldB_some ((mfull i).mp hi).2
    show (cap i).getD 0 * W ≤ T * w i
    rw [e]; exact h
  have hsp : W = S w full + S w ((List.range n).filter fun i => p i && !heldB T W w cap i) := by
    have e := S_split w (heldB T W w cap) ((List.range n).filter p)
    rw [← hfull, filter_and, ← hW] at e
    exact e
  have V0 : S w full ≤ W := by
    have : 0 ≤ S w ((List.range n).filter fun i => p i && !heldB T W w cap i) := S_nonneg fun i hi => by
      obtain ⟨h1, h2⟩ := List.mem_filter.mp hi
      have := d.pw i (List.mem_range.mp h1) (Bool.and_eq_true_iff.mp h2).1
      omega
    omega
  have T0 : 0 ≤ T - S (capN cap) full := by
    have h1 : T * S w full ≤ T * W := Int.mul_le_mul_of_nonneg_left V0 d.tn
    have h2 : S (capN cap) full * W ≤ T * W := Int.le_trans hC h1
    have := Int.le_of_mul_le_mul_right h2 W0
    omega
  have hr := rise W0 hC
  have eW' : W - S w full = S w ((List.range n).filter fun i => p i && !heldB T W w cap i) := by omega
  rw [eW'] at hr
  have W'0 : 0 ≤ S w ((List.range n).filter fun i => p i && !heldB T W w cap i) := by omega
  have fst : (full.map fun i => (i, capN cap i)).map (·.1) = full := by rw [List.map_map]; exact List.map_id'' (fun _ => rfl) _
  refine ⟨by rw [putAll_len]; exact d.len, fun i hi h => d.pw i hi (Bool.and_eq_true_iff.mp h).1, T0, fun i hi hw hp' => ?_, fun i hi h => ?_, ?_⟩
  · cases hp : p i with
    | false =>
      obtain ⟨c, h1, h2, h3⟩ := d.out i hi hw hp
      refine ⟨c, h1, ?_, ?_⟩
      · rw [putAll_out _ _ (by rw [fst]; intro hm; have := ((mfull i).mp hm).1.2; rw [hp] at this; cases this)]
        exact h2
      · rw [← hW] at h3
        exact keep_cap W0 (Int.le_of_lt hw) W'0 h3 hr
    | true =>
      have hh : heldB T W w cap i = true := by rw [hp] at hp'; simpa using hp'
      obtain ⟨c, e, h⟩ := heldB_some hh
      refine ⟨c, e, ?_, keep_cap W0 (Int.le_of_lt hw) W'0 h hr⟩
      have := putAll_in (g := capN cap) (i := i) (full.map fun i => (i, capN cap i)) f (fun q hq => by
        obtain ⟨j, _, e⟩ := List.mem_map.mp hq
        rw [← e]) (by rw [fst]; exact (mfull i).mpr ⟨⟨hi, hp⟩, hh⟩) (by rw [d.len]; exact hi)
      rw [this]
      show some ((cap i).getD 0) = some c
      rw [e]; rfl
  · have hn : i ∉ full := fun hm => by
      obtain ⟨⟨_, h1⟩, h2⟩ := (mfull i).mp hm
      rcases h with h | h
      · rw [h1, h2] at h; cases h
      · have := d.pw i hi h1; omega
    rw [putAll_out _ _ (by rw [fst]; exact hn)]
    refine d.yet i hi ?_
    rcases h with h | h
    · exact .inl (Bool.and_eq_true_iff.mp h).1
    · exact .inr h
  · have e1 : S (capN cap) ((List.range n).filter fun i => decide (0 < w i) && !(p i && !heldB T W w cap i)) = S (capN cap) full + S (capN cap) ((List.range n).filter fun i => decide (0 < w i) && !p i) := by
      have e := S_split (capN cap) p ((List.range n).filter fun i => decide (0 < w i) && !(p i && !heldB T W w cap i))
      rw [filter_and, filter_and] at e
      rw [e]
      congr 1
      · congr 1
        rw [hfull, filter_and]
        refine filter_congr' fun i hi => ?_
        have := d.pw i (List.mem_range.mp hi)
        cases hp : p i with
        | false => simp
        | true =>
          rw [decide_eq_true (this hp)]
          cases heldB T W w cap i <;> rfl
      · congr 1
        refine filter_congr' fun i _ => ?_
        cases p i <;> simp
    rw [e1]
    have := d.sum
    omega
/-- nobody is held any more: the level -/
theorem DI.fin1 (d : DI n w cap total p T f) (W : Int) (hW : W = S w ((List.range n).filter p)) (hne : (List.range n).filter p ≠ []) (hfull : ((List.range n).filter p).filter (heldB T W w cap) = []) {t b g : Int}
    (eT : T = t * g) (eW : W = b * g) (hg : 0 < g) (hgcd : Int.gcd t b = 1) :
    Dealt n w cap total (some (t, b)) (putAll f (runD t b w ((List.range n).filter p) 0)) := by
  have hpos : ∀ i ∈ (List.range n).filter p, 0 < w i := fun i hi => by
    obtain ⟨h1, h2⟩ := List.mem_filter.mp hi
    exact d.pw i (List.mem_range.mp h1) h2
  have W0 : 0 < W := by rw [hW]; exact S_pos hpos hne
  have b0 : 0 < b := Int.pos_of_mul_pos_right (by rw [Int.mul_comm] at eW; rw [← eW]; exact W0) hg
  have t0 : 0 ≤ t := by
    by_cases h : 0 ≤ t
    · exact h
    · have : t * g < 0 := Int.mul_neg_of_neg_of_pos (by omega) hg
      have := d.tn
      omega
  have cmp : ∀ c i, (c * W ≤ T * w i ↔ c * b ≤ t * w i) := fun c i => by
    have e1 : c * W = c * b * g := by rw [eW, Int.mul_assoc]
    have e2 : T * w i = t * w i * g := by rw [eT, Int.mul_assoc, Int.mul_comm g, ← Int.mul_assoc]
    rw [e1, e2]
    exact ⟨fun h => Int.le_of_mul_le_mul_right h hg, fun h => Int.mul_le_mul_of_nonneg_right h (Int.le_of_lt hg)⟩
  have hheld : ∀ i, heldB t b w cap i = heldB T W w cap i := fun i => by
    unfold heldB
    cases cap i with
    | none => rfl
    | some c => exact decide_eq_decide.mpr (cmp c i).symm
  have hrest : ∀ i, i < n → restB t b w cap i = p i := fun i hi => by
    unfold restB
    rw [hheld]
    cases hp : p i with
    | true =>
      have hw := d.pw i hi hp
      have hm : i ∈ (List.range n).filter p := List.mem_filter.mpr ⟨List.mem_range.mpr hi, hp⟩
      have hh := List.filter_eq_nil_iff.mp hfull i hm
      rw [decide_eq_true hw]
      simpa using hh
    | false =>
      by_cases hw : 0 < w i
      · obtain ⟨c, e, _, h⟩ := d.out i hi hw hp
        rw [← hW] at h
        rw [heldB_iff e, decide_eq_true h]
        simp
      · rw [decide_eq_false hw]; rfl
  have epre : ∀ i, i ≤ n → pre w (restB t b w cap) i = pre w p i := by
    intro i hi
    rw [pre_eq, pre_eq]
    congr 1
    exact filter_congr' fun j hj => hrest j (by have := List.mem_range.mp hj; omega)
  have hrun := runD_range t b w p n
  have fst : (runD t b w ((List.range n).filter p) 0).map (·.1) = (List.range n).filter p := runD_fst ..
  have hin : ∀ i, i < n → p i = true → (putAll f (runD t b w ((List.range n).filter p) 0))[i]? = some (part t b (pre w p i) (w i)) := fun i hi hp =>
    putAll_in (g := fun i => part t b (pre w p i) (w i)) _ f (fun q hq => (hrun q hq).2.2) (by rw [fst]; exact List.mem_filter.mpr ⟨List.mem_range.mpr hi, hp⟩) (by rw [d.len]; exact hi)
  have hout : ∀ i, i < n → p i = false → (putAll f (runD t b w ((List.range n).filter p) 0))[i]? = f[i]? := fun i hi hp =>
    putAll_out _ f (by rw [fst]; intro hm; have := (List.mem_filter.mp hm).2; rw [hp] at this; cases this)
  -- those who have weight: the removed and the rest
  have hsplit : ∀ g : Nat → Int, S g (wtd n w) = S g ((List.range n).filter p) + S g ((List.range n).filter fun i => decide (0 < w i) && !p i) := fun g => by
    have e := S_split g p (wtd n w)
    unfold wtd at e
    rw [filter_and, filter_and] at e
    unfold wtd
    rw [e]
    congr 1
    congr 1
    refine filter_congr' fun i hi => ?_
    cases hp : p i with
    | false => simp
    | true => rw [decide_eq_true (d.pw i (List.mem_range.mp hi) hp)]; rfl
  have outs : ∀ i ∈ (List.range n).filter fun i => decide (0 < w i) && !p i, ∃ c, cap i = some c ∧ c * b ≤ t * w i := fun i hi => by
    obtain ⟨h1, h2⟩ := List.mem_filter.mp hi
    rw [Bool.and_eq_true] at h2
    obtain ⟨c, e, _, h⟩ := d.out i (List.mem_range.mp h1) (of_decide_eq_true h2.1) (by simpa using h2.2)
    rw [← hW] at h
    exact ⟨c, e, (cmp c i).mp h⟩
  have ins : ∀ i ∈ (List.range n).filter p, ∀ c, cap i = some c → t * w i < c * b := fun i hi c e => by
    have hh := List.filter_eq_nil_iff.mp hfull i hi
    rw [heldB_iff e] at hh
    have h3 : ¬ c * b ≤ t * w i := fun z => hh (decide_eq_true ((cmp c i).mpr z))
    omega
  refine ⟨by rw [putAll_len]; exact d.len, fun i hi h => ?_, (fun h => by cases h), fun t' b' h => ?_⟩
  · have hp : p i = false := by
      cases hp : p i with
      | false => rfl
      | true => have := d.pw i hi hp; omega
    rw [hout i hi hp]
    exact d.yet i hi (.inr h)
  · cases h
    refine ⟨t0, b0, hgcd, fun ⟨h1, h2⟩ => ?_, ?_, fun i hi hw => ?_⟩
    · -- all have caps, and these come to more than the total
      have hlt : S (fun i => t * w i) ((List.range n).filter p) < S (fun i => capN cap i * b) ((List.range n).filter p) := S_lt (fun i hi => by
        obtain ⟨ha, hb⟩ := List.mem_filter.mp hi
        have hs := h1 i (List.mem_range.mp ha) (hpos i hi)
        obtain ⟨c, e⟩ := Option.isSome_iff_exists.mp hs
        have := ins i hi c e
        show t * w i < (cap i).getD 0 * b
        rw [e]; exact this) hne
      rw [S_mul, S_mul_r, ← hW] at hlt
      have e1 : t * W = T * b := by rw [eT, eW, Int.mul_comm b g, ← Int.mul_assoc]
      rw [e1] at hlt
      have hlt2 := Int.lt_of_mul_lt_mul_right hlt (Int.le_of_lt b0)
      rw [hsplit] at h2
      have := d.sum
      omega
    · rw [hsplit]
      have e1 : S (fun i => less (cap i) b (t * w i)) ((List.range n).filter p) = t * W := by
        rw [hW, ← S_mul]
        refine S_congr fun i hi => ?_
        cases e : cap i with
        | none => simp [less]
        | some c =>
          have := ins i hi c e
          simp only [less]
          omega
      have e2 : S (fun i => less (cap i) b (t * w i)) ((List.range n).filter fun i => decide (0 < w i) && !p i) = S (capN cap) ((List.range n).filter fun i => decide (0 < w i) && !p i) * b := by
        rw [← S_mul_r]
        refine S_congr fun i hi => ?_
        obtain ⟨c, e, h⟩ := outs i hi
        unfold capN
        rw [e]
        simp only [less, Option.getD_some]
        omega
      rw [e1, e2]
      have e3 : t * W = T * b := by rw [eT, eW, Int.mul_comm b g, ← Int.mul_assoc]
      rw [e3, ← Int.add_mul, d.sum]
    · cases hp : p i with
      | true =>
        have hr := hrest i hi
        rw [hp] at hr
        unfold restB at hr
        rw [Bool.and_eq_true] at hr
        have hh : heldB t b w cap i = false := by simpa using hr.2
        rw [hin i hi hp, hh, epre i (Nat.le_of_lt hi)]
        rfl
      | false =>
        obtain ⟨c, e, h1, h2⟩ := d.out i hi hw hp
        rw [← hW] at h2
        rw [hout i hi hp, h1, heldB_iff e, decide_eq_true ((cmp c i).mp h2)]
        unfold capN
        rw [e]; rfl
end
/-! #### lists of places, levels as values -/
theorem lcYs_range (n : Nat) (p : Nat → Bool) (ys : Nat → Option V) (h : ∀ i, i < n → ys i = if p i = true then some (.int (i : Int)) else none) : lcYs n ys = natsV ((List.range n).filter p) := by
  have key : ∀ m, m ≤ n → lcYs m ys = natsV ((List.range m).filter p) := by
    intro m
    induction m with
    | zero => intro _; rfl
    | succ m ih =>
      intro hm
      rw [lcYs_succ, ih (by omega), h m (by omega), List.range_succ, List.filter_append]
      unfold natsV
      rw [List.map_append]
      congr 1
      cases hp : p m <;> simp [hp]
  exact key n (Nat.le_refl _)
theorem rep_zero (n : Nat) : (List.replicate n [V.int 0]).flatten = (List.replicate n (0 : Int)).map V.int := by
  induction n with
  | zero => rfl
  | succ n ih => rw [List.replicate_succ, List.flatten_cons, ih, List.replicate_succ, List.map_cons]; rfl
theorem inV_nats (i : Nat) : ∀ l : List Nat, inV (.int (i : Int)) (natsV l) = decide (i ∈ l)
  | [] => by simp [inV]
  | j :: l => by
    have ih := inV_nats i l
    unfold inV at ih ⊢
    simp only [natsV, List.map_cons, List.any_cons] at ih ⊢
    rw [ih]
    have e : eqV (V.int (j : Int)) (V.int (i : Int)) = decide (j = i) := by
      by_cases hj : j = i
      · subst hj; simp [eqV]
      · have : ¬ ((j : Int) = (i : Int)) := by omega
        simp [eqV, hj, this]
    rw [e]
    by_cases hj : j = i
    · subst hj; simp
    · have : ¬ i = j := fun z => hj z.symm
      simp [hj, this]
theorem flat_nats (l : List Nat) : (natsV l).all flatV = true := by
  rw [List.all_eq_true]
  intro x hx
  obtain ⟨i, _, rfl⟩ := List.mem_map.mp hx
  rfl
def natI (l : List Nat) : List Int := l.map fun i : Nat => (i : Int)
theorem natsV_eq (l : List Nat) : (natI l).map V.int = natsV l := by unfold natI; rw [List.map_map]; rfl
theorem natI_nil {l : List Nat} : natI l = [] ↔ l = [] := by unfold natI; exact List.map_eq_nil_iff
theorem nat_of_map {l : List Nat} {i : Nat} {y : V} (h : (natsV l)[i]? = some y) : ∃ c, l[i]? = some c ∧ y = V.int (c : Int) := by
  rw [List.getElem?_map] at h
  cases e : l[i]? with
  | none => rw [e] at h; cases h
  | some c => rw [e] at h; exact ⟨c, rfl, (Option.some.inj h).symm⟩
theorem int_at {ws : List Int} {c : Nat} (h : c < ws.length) : (ws.map V.int)[c]? = some (.int (wAt ws c)) := by
  rw [List.getElem?_map, List.getElem?_eq_getElem h]
  unfold wAt
  rw [List.getD_eq_getElem?_getD, List.getElem?_eq_getElem h]; rfl
def cAt (cs : List (Option Int)) (i : Nat) : Option Int := cs.getD i none
theorem opt_at {cs : List (Option Int)} {c : Nat} (h : c < cs.length) : (cs.map optI)[c]? = some (optI (cAt cs c)) := by
  rw [List.getElem?_map, List.getElem?_eq_getElem h]
  unfold cAt
  rw [List.getD_eq_getElem?_getD, List.getElem?_eq_getElem h]; rfl
theorem wAt_mem {ws : List Int} {i : Nat} (h : i < ws.length) : wAt ws i ∈ ws := by
  unfold wAt
  rw [List.getD_eq_getElem?_getD, List.getElem?_eq_getElem h]
  exact List.getElem_mem h
theorem cAt_mem {cs : List (Option Int)} {i : Nat} {z : Int} (h : cAt cs i = some z) : some z ∈ cs := by
  unfold cAt at h
  rw [List.getD_eq_getElem?_getD] at h
  cases e : cs[i]? with
  | none => rw [e] at h; cases h
  | some c => rw [e] at h; have : c = some z := h; rw [← this]; exact List.mem_of_getElem? e
/-- a level as it stands -/
def LvAt (H : Hp) (lv : Option (Int × Int)) (v : V) : Prop := match lv with
  | none => v = .non
  | some (t, b) => ∃ r, v = .ref r ∧ H r = some (.tup [.int t, .int b])
theorem filter_not_mem {p q : Nat → Bool} {l : List Nat} : ((l.filter p).filter fun i => !decide (i ∈ (l.filter p).filter q)) = l.filter fun i => p i && !q i := by
  rw [filter_and]
  refine List.filter_congr fun i hi => ?_
  cases hp : p i with
  | false => rfl
  | true =>
    have : decide (i ∈ (l.filter p).filter q) = q i := by
      cases hq : q i with
      | true => exact decide_eq_true (List.mem_filter.mpr ⟨List.mem_filter.mpr ⟨hi, hp⟩, hq⟩)
      | false => exact decide_eq_false fun hm => by have := (List.mem_filter.mp hm).2; rw [hq] at this; cases this
    rw [this]
theorem filter_lt {α : Type} {q : α → Bool} {l : List α} {j : α} (h : j ∈ l) (hq : q j = false) : (l.filter q).length < l.length := by
  have h1 := List.length_filter_le q l
  have h2 : (l.filter q).length ≠ l.length := fun e => by
    have := (List.length_filter_eq_length_iff.mp e) j h
    rw [hq] at this; cases this
  omega
theorem putAll_take {ps : List (Nat × Int)} {i : Nat} {q : Nat × Int} (h : ps[i]? = some q) (f : List Int) : putAll f (ps.take (i + 1)) = (putAll f (ps.take i)).set q.1 q.2 := by
  unfold putAll
  rw [List.take_add_one, h]
  show List.foldl _ f (ps.take i ++ [q]) = _
  rw [List.foldl_append]
  rfl
theorem ixN_nat {n i : Nat} (h : i < n) : ixN n (i : Int) = some i := by
  unfold ixN
  rw [if_pos (by omega), if_pos (by omega)]
  simp
theorem map_set {α β : Type} (f : α → β) (l : List α) (i : Nat) (x : α) : (l.map f).set i (f x) = (l.set i x).map f := (List.map_set).symm
end My

/-! ### totals levelled by floors and weights: plain mathematics -/
namespace My
open PySem L2
theorem S_range : ∀ ws : List Int, S (wAt ws) (List.range ws.length) = ws.sum := fun ws => by
  have : (List.range ws.length).map (wAt ws) = ws := by
    apply List.ext_getElem?
    intro i
    rw [List.getElem?_map]
    by_cases h : i < ws.length
    · rw [List.getElem?_range h, List.getElem?_eq_getElem h]
      show some (ws.getD i 0) = _
      rw [List.getD_eq_getElem?_getD, List.getElem?_eq_getElem h]; rfl
    · rw [List.getElem?_eq_none (by rw [List.length_range]; omega), List.getElem?_eq_none (by omega)]; rfl
  unfold S
  rw [this]
theorem keep_floor {c w T W T' W' : Int} (hW : 0 < W) (hw : 0 ≤ w) (hW' : 0 ≤ W') (h : T * w ≤ c * W) (hr : T' * W ≤ T * W') : T' * w ≤ c * W' := by
  have h1 : T * w * W' ≤ c * W * W' := Int.mul_le_mul_of_nonneg_right h hW'
  have h2 : T' * W * w ≤ T * W' * w := Int.mul_le_mul_of_nonneg_right hr hw
  have e1 : c * W * W' = c * W' * W := by rw [Int.mul_assoc, Int.mul_comm W W', ← Int.mul_assoc]
  have e2 : T * w * W' = T * W' * w := by rw [Int.mul_assoc, Int.mul_comm w W', ← Int.mul_assoc]
  have e3 : T' * W * w = T' * w * W := by rw [Int.mul_assoc, Int.mul_comm W w, ← Int.mul_assoc]
  exact Int.le_of_mul_le_mul_right (by rw [← e1, ← e3]; omega) hW
/-- the floor is no less than level times weight -/
def highB (T W : Int) (w fl : Nat → Int) (i : Nat) : Bool := decide (T * w i ≤ fl i * W)
def restL (t b : Int) (w fl : Nat → Int) (i : Nat) : Bool := decide (0 < w i) && !highB t b w fl i
/-- the spec -/
structure Lev (n : Nat) (w fl : Nat → Int) (total : Int) (lv : Option (Int × Int)) (fs : List Int) : Prop where
  len : fs.length = n
  non : lv = none → (∀ i, i < n → fs[i]? = some (fl i)) ∧ (S w (List.range n) = 0 ∨ total ≤ S fl (List.range n))
  lev : ∀ t b, lv = some (t, b) → 0 ≤ t ∧ 0 < b ∧ Int.gcd t b = 1 ∧ ¬ (S w (List.range n) = 0 ∨ total ≤ S fl (List.range n)) ∧
    S (fun i => max (fl i * b) (t * w i)) (List.range n) = total * b ∧ fs.sum = total ∧
    ∀ i, i < n → fs[i]? = some (if restL t b w fl i then part t b (pre w (restL t b w fl) i) (w i) else fl i)
/-- between two turns -/
structure LI (n : Nat) (w fl : Nat → Int) (total : Int) (p : Nat → Bool) (T : Int) : Prop where
  pw : ∀ i, i < n → p i = true → 0 < w i
  ne : (List.range n).filter p ≠ []
  lt : S fl ((List.range n).filter p) < T
  out : ∀ i, i < n → 0 < w i → p i = false → T * w i ≤ fl i * S w ((List.range n).filter p)
  sum : T + S fl ((List.range n).filter fun i => !p i) = total
section
variable {n : Nat} {w fl : Nat → Int} {total T : Int} {p : Nat → Bool}
theorem LI.start (hw : ∀ i, i < n → 0 ≤ w i) (hne : (List.range n).filter (fun i => decide (0 < w i)) ≠ []) (hlt : S fl (List.range n) < total) :
    LI n w fl total (fun i => decide (0 < w i)) (total - S fl ((List.range n).filter fun i => decide (w i = 0))) := by
  have e0 : ((List.range n).filter fun i => decide (w i = 0)) = (List.range n).filter fun i => !decide (0 < w i) := filter_congr' fun i hi => by
    have := hw i (List.mem_range.mp hi)
    by_cases h : 0 < w i
    · rw [decide_eq_true h, decide_eq_false (by omega)]; rfl
    · rw [decide_eq_false h, decide_eq_true (by omega)]; rfl
  have e := S_split fl (fun i => decide (0 < w i)) (List.range n)
  refine ⟨fun i _ h => of_decide_eq_true h, hne, ?_, fun i _ h1 h2 => absurd h1 (of_decide_eq_false h2), ?_⟩
  · rw [e0]; omega
  · rw [e0]; omega
theorem LI.W0 (d : LI n w fl total p T) : 0 < S w ((List.range n).filter p) := S_pos (fun i hi => by
  obtain ⟨h1, h2⟩ := List.mem_filter.mp hi
  exact d.pw i (List.mem_range.mp h1) h2) d.ne
/-- the high ones leave -/
theorem LI.turn (hfl : ∀ i, i < n → 0 ≤ fl i) (d : LI n w fl total p T) (W : Int) (hW : W = S w ((List.range n).filter p)) (high : List Nat) (hh : high = ((List.range n).filter p).filter (highB T W w fl)) :
    LI n w fl total (fun i => p i && !highB T W w fl i) (T - S fl high) := by
  have W0 : 0 < W := by rw [hW]; exact d.W0
  have mh : ∀ i ∈ high, (i < n ∧ p i = true) ∧ T * w i ≤ fl i * W := fun i hi => by
    rw [hh] at hi
    obtain ⟨h1, h2⟩ := List.mem_filter.mp hi
    obtain ⟨h3, h4⟩ := List.mem_filter.mp h1
    exact ⟨⟨List.mem_range.mp h3, h4⟩, of_decide_eq_true h2⟩
  have hF : T * S w high ≤ S fl high * W := by
    rw [← S_mul_r, ← S_mul]
    exact S_le fun i hi => (mh i hi).2
  have spw : W = S w high + S w ((List.range n).filter fun i => p i && !highB T W w fl i) := by
    have e := S_split w (highB T W w fl) ((List.range n).filter p)
    rw [← hh, filter_and, ← hW] at e
    exact e
  have spf : S fl ((List.range n).filter p) = S fl high + S fl ((List.range n).filter fun i => p i && !highB T W w fl i) := by
    have e := S_split fl (highB T W w fl) ((List.range n).filter p)
    rw [← hh, filter_and] at e
    exact e
  have dl := d.lt
  have W'0 : 0 ≤ S w ((List.range n).filter fun i => p i && !highB T W w fl i) := S_nonneg fun i hi => by
    obtain ⟨h1, h2⟩ := List.mem_filter.mp hi
    have := d.pw i (List.mem_range.mp h1) (Bool.and_eq_true_iff.mp h2).1
    omega
  have hr : (T - S fl high) * W ≤ T * S w ((List.range n).filter fun i => p i && !highB T W w fl i) := by
    have e1 : S w ((List.range n).filter fun i => p i && !highB T W w fl i) = W - S w high := by omega
    rw [e1, Int.mul_sub, Int.sub_mul]; omega
  refine ⟨fun i hi h => d.pw i hi (Bool.and_eq_true_iff.mp h).1, fun he => ?_, by omega, fun i hi hw hp' => ?_, ?_⟩
  · rw [he, S_nil] at spw spf
    have e1 : S w high = W := by omega
    rw [e1] at hF
    have := Int.le_of_mul_le_mul_right hF W0
    omega
  · refine keep_floor W0 (Int.le_of_lt hw) W'0 ?_ hr
    cases hp : p i with
    | false => have := d.out i hi hw hp; rw [← hW] at this; exact this
    | true =>
      have h1 : highB T W w fl i = true := by rw [hp] at hp'; simpa using hp'
      exact of_decide_eq_true h1
  · have e1 : S fl ((List.range n).filter fun i => !(p i && !highB T W w fl i)) = S fl high + S fl ((List.range n).filter fun i => !p i) := by
      rw [S_split fl p ((List.range n).filter fun i => !(p i && !highB T W w fl i)), filter_and, filter_and, hh, filter_and]
      congr 1
      · congr 1
        refine filter_congr' fun i _ => ?_
        cases p i <;> cases highB T W w fl i <;> rfl
      · congr 1
        refine filter_congr' fun i _ => ?_
        cases p i <;> simp
    have := d.sum
    omega
theorem parts_sum (t b : Int) (w : Nat → Int) (p : Nat → Bool) : ∀ n, S (fun i => part t b (pre w p i) (w i)) ((List.range n).filter p) = t * pre w p n / b
  | 0 => by simp [S_nil, pre]
  | n + 1 => by
    rw [List.range_succ, List.filter_append, S_append, parts_sum t b w p n]
    cases hp : p n with
    | false => simp [hp, S_nil, pre]
    | true =>
      rw [List.filter_cons, if_pos hp, List.filter_nil, S_cons, S_nil]
      simp only [pre, hp, if_true, part]
      omega
/-- nobody is high any more: the level -/
theorem LI.fin (hfl : ∀ i, i < n → 0 ≤ fl i) (hw0 : ∀ i, i < n → 0 ≤ w i) (d : LI n w fl total p T) (W : Int) (hW : W = S w ((List.range n).filter p)) (hh : ((List.range n).filter p).filter (highB T W w fl) = []) {t b g : Int}
    (eT : T = t * g) (eW : W = b * g) (hg : 0 < g) (hgcd : Int.gcd t b = 1) (f : List Int) (hfn : f.length = n) (hf : ∀ i, i < n → f[i]? = some (fl i)) (hno : ¬ (S w (List.range n) = 0 ∨ total ≤ S fl (List.range n))) :
    Lev n w fl total (some (t, b)) (putAll f (runD t b w ((List.range n).filter p) 0)) := by
  have W0 : 0 < W := by rw [hW]; exact d.W0
  have b0 : 0 < b := Int.pos_of_mul_pos_right (by rw [Int.mul_comm] at eW; rw [← eW]; exact W0) hg
  have F0 : 0 ≤ S fl ((List.range n).filter p) := S_nonneg fun i hi => hfl i (List.mem_range.mp (List.mem_filter.mp hi).1)
  have t0 : 0 ≤ t := by
    by_cases h : 0 ≤ t
    · exact h
    · have : t * g < 0 := Int.mul_neg_of_neg_of_pos (by omega) hg
      have := d.lt
      omega
  have cmp : ∀ i, (T * w i ≤ fl i * W ↔ t * w i ≤ fl i * b) := fun i => by
    have e1 : fl i * W = fl i * b * g := by rw [eW, Int.mul_assoc]
    have e2 : T * w i = t * w i * g := by rw [eT, Int.mul_assoc, Int.mul_comm g, ← Int.mul_assoc]
    rw [e1, e2]
    exact ⟨fun h => Int.le_of_mul_le_mul_right h hg, fun h => Int.mul_le_mul_of_nonneg_right h (Int.le_of_lt hg)⟩
  have ins : ∀ i, i < n → p i = true → fl i * b < t * w i := fun i hi hp => by
    have h := List.filter_eq_nil_iff.mp hh i (List.mem_filter.mpr ⟨List.mem_range.mpr hi, hp⟩)
    have h3 : ¬ t * w i ≤ fl i * b := fun z => h (decide_eq_true ((cmp i).mpr z))
    omega
  have outs : ∀ i, i < n → p i = false → t * w i ≤ fl i * b := fun i hi hp => by
    by_cases hw : 0 < w i
    · have h := d.out i hi hw hp
      rw [← hW] at h
      exact (cmp i).mp h
    · have : w i = 0 := by have := hw0 i hi; omega
      rw [this, Int.mul_zero]
      exact Int.mul_nonneg (hfl i hi) (Int.le_of_lt b0)
  have hrest : ∀ i, i < n → restL t b w fl i = p i := fun i hi => by
    unfold restL highB
    cases hp : p i with
    | true =>
      have := ins i hi hp
      rw [decide_eq_true (d.pw i hi hp), decide_eq_false (by omega)]; rfl
    | false => rw [decide_eq_true (outs i hi hp)]; simp
  have epre : ∀ i, i ≤ n → pre w (restL t b w fl) i = pre w p i := by
    intro i hi
    rw [pre_eq, pre_eq]
    congr 1
    exact filter_congr' fun j hj => hrest j (by have := List.mem_range.mp hj; omega)
  have hrun := runD_range t b w p n
  have fst : (runD t b w ((List.range n).filter p) 0).map (·.1) = (List.range n).filter p := runD_fst ..
  have hin : ∀ i, i < n → p i = true → (putAll f (runD t b w ((List.range n).filter p) 0))[i]? = some (part t b (pre w p i) (w i)) := fun i hi hp =>
    putAll_in (g := fun i => part t b (pre w p i) (w i)) _ f (fun q hq => (hrun q hq).2.2) (by rw [fst]; exact List.mem_filter.mpr ⟨List.mem_range.mpr hi, hp⟩) (by rw [hfn]; exact hi)
  have hout : ∀ i, i < n → p i = false → (putAll f (runD t b w ((List.range n).filter p) 0))[i]? = some (fl i) := fun i hi hp => by
    rw [putAll_out _ f (by rw [fst]; intro hm; have := (List.mem_filter.mp hm).2; rw [hp] at this; cases this)]
    exact hf i hi
  have tWb : t * W = T * b := by rw [eT, eW, Int.mul_comm b g, ← Int.mul_assoc]
  have hlen : (putAll f (runD t b w ((List.range n).filter p) 0)).length = n := by rw [putAll_len]; exact hfn
  refine ⟨hlen, (fun h => by cases h), fun t' b' h => ?_⟩
  cases h
  refine ⟨t0, b0, hgcd, hno, ?_, ?_, fun i hi => ?_⟩
  · rw [S_split _ p]
    have e1 : S (fun i => max (fl i * b) (t * w i)) ((List.range n).filter p) = T * b := by
      rw [← tWb, hW, ← S_mul]
      refine S_congr fun i hi => ?_
      obtain ⟨h1, h2⟩ := List.mem_filter.mp hi
      have := ins i (List.mem_range.mp h1) h2
      omega
    have e2 : S (fun i => max (fl i * b) (t * w i)) ((List.range n).filter fun i => !p i) = S fl ((List.range n).filter fun i => !p i) * b := by
      rw [← S_mul_r]
      refine S_congr fun i hi => ?_
      obtain ⟨h1, h2⟩ := List.mem_filter.mp hi
      have := outs i (List.mem_range.mp h1) (by simpa using h2)
      omega
    rw [e1, e2, ← Int.add_mul, d.sum]
  · rw [← S_range, hlen, S_split _ p]
    have at1 : ∀ i, i < n → ∀ v, (putAll f (runD t b w ((List.range n).filter p) 0))[i]? = some v → wAt (putAll f (runD t b w ((List.range n).filter p) 0)) i = v := fun i hi v h => by
      unfold wAt
      rw [List.getD_eq_getElem?_getD, h]; rfl
    have e1 : S (wAt (putAll f (runD t b w ((List.range n).filter p) 0))) ((List.range n).filter p) = T := by
      have e : S (wAt (putAll f (runD t b w ((List.range n).filter p) 0))) ((List.range n).filter p) = S (fun i => part t b (pre w p i) (w i)) ((List.range n).filter p) := S_congr fun i hi => by
        obtain ⟨h1, h2⟩ := List.mem_filter.mp hi
        exact at1 i (List.mem_range.mp h1) _ (hin i (List.mem_range.mp h1) h2)
      rw [e, parts_sum, pre_eq, ← hW, tWb]
      exact Int.mul_ediv_cancel _ (by omega)
    have e2 : S (wAt (putAll f (runD t b w ((List.range n).filter p) 0))) ((List.range n).filter fun i => !p i) = S fl ((List.range n).filter fun i => !p i) := S_congr fun i hi => by
      obtain ⟨h1, h2⟩ := List.mem_filter.mp hi
      exact at1 i (List.mem_range.mp h1) _ (hout i (List.mem_range.mp h1) (by simpa using h2))
    rw [e1, e2, d.sum]
  · rw [hrest i hi, epre i (Nat.le_of_lt hi)]
    cases hp : p i with
    | true => exact hin i hi hp
    | false => exact hout i hi hp
end
/-- what one gets by running sums is no less than a floor under level times weight -/
theorem part_floor {t b beh w c : Int} (b0 : 0 < b) (h : c * b < t * w) : c ≤ part t b beh w := by
  unfold part
  have e : t * (beh + w) = t * beh + t * w := Int.mul_add ..
  have h1 : t * beh / b + c ≤ t * (beh + w) / b := by
    rw [Int.le_ediv_iff_mul_le b0, Int.add_mul, e]
    have := Int.ediv_mul_le (t * beh) (by omega : b ≠ 0)
    omega
  omega
end My

/-! ### there is one level: plain mathematics -/
namespace My
open PySem L2
theorem S_eq_all {f g : Nat → Int} : ∀ {R : List Nat}, (∀ i ∈ R, f i ≤ g i) → S f R = S g R → ∀ i ∈ R, f i = g i
  | [], _, _, i, h => by cases h
  | j :: R, h, e, i, hi => by
    rw [S_cons, S_cons] at e
    have h1 := h j (List.mem_cons_self ..)
    have h2 := S_le (R := R) fun k hk => h k (List.mem_cons_of_mem _ hk)
    rcases List.mem_cons.mp hi with rfl | hi
    · omega
    · exact S_eq_all (R := R) (fun k hk => h k (List.mem_cons_of_mem _ hk)) (by omega) i hi
theorem mul_right_swap (a b c : Int) : a * b * c = a * c * b := by rw [Int.mul_assoc, Int.mul_comm b c, ← Int.mul_assoc]
theorem dvd_cop {k m n : Int} (g : Int.gcd m k = 1) (h : k ∣ m * n) : k ∣ n := by
  have h1 : k.natAbs ∣ m.natAbs * n.natAbs := by rw [← Int.natAbs_mul]; exact Int.natAbs_dvd_natAbs.mpr h
  have h2 : Nat.Coprime k.natAbs m.natAbs := by rw [Nat.Coprime, Nat.gcd_comm]; exact g
  exact Int.natAbs_dvd_natAbs.mp (h2.dvd_of_dvd_mul_left h1)
/-- one number in lowest terms -/
theorem lowest_uniq {t b t' b' : Int} (ht : 0 ≤ t) (ht' : 0 ≤ t') (hb : 0 < b) (hb' : 0 < b') (g : Int.gcd t b = 1) (g' : Int.gcd t' b' = 1) (e : t * b' = t' * b) : t = t' ∧ b = b' := by
  have d1 : b ∣ b' := by
    have : b ∣ t * b' := ⟨t', by rw [e, Int.mul_comm]⟩
    exact dvd_cop g this
  have d2 : b' ∣ b := by
    have : b' ∣ t' * b := ⟨t, by rw [← e, Int.mul_comm]⟩
    exact dvd_cop g' this
  have eb : b = b' := Int.le_antisymm (Int.le_of_dvd hb' d1) (Int.le_of_dvd hb d2)
  subst eb
  exact ⟨Int.eq_of_mul_eq_mul_right (by omega) e, rfl⟩
section
variable {n : Nat} {w : Nat → Int} {total : Int}
theorem wtd_mem {i : Nat} : i ∈ wtd n w ↔ i < n ∧ 0 < w i := by
  unfold wtd
  rw [List.mem_filter, List.mem_range, decide_eq_true_iff]
section
variable {cap : Nat → Option Int}
theorem less_mul {c : Option Int} {b x k : Int} (hk : 0 ≤ k) : less c b x * k = less c (b * k) (x * k) := by
  cases c with
  | none => rfl
  | some c =>
    show min (c * b) x * k = min (c * (b * k)) (x * k)
    rw [← Int.mul_assoc]
    by_cases h : c * b ≤ x
    · rw [Int.min_eq_left h, Int.min_eq_left (Int.mul_le_mul_of_nonneg_right h hk)]
    · rw [Int.min_eq_right (by omega), Int.min_eq_right (Int.mul_le_mul_of_nonneg_right (by omega) hk)]
theorem less_mono {c : Option Int} {b x y : Int} (h : x ≤ y) : less c b x ≤ less c b y := by
  cases c with
  | none => exact h
  | some c => show min (c * b) x ≤ min (c * b) y; omega
theorem lev_lt {t b t' b' : Int} (hb : 0 < b) (hb' : 0 < b') (h1 : S (fun i => less (cap i) b (t * w i)) (wtd n w) = total * b) (h2 : S (fun i => less (cap i) b' (t' * w i)) (wtd n w) = total * b')
    (h : t * b' < t' * b) : (∀ i, i < n → 0 < w i → (cap i).isSome = true) ∧ S (capN cap) (wtd n w) = total := by
  have e1 : S (fun i => less (cap i) (b * b') (t * w i * b')) (wtd n w) = total * b * b' := by
    rw [← h1, ← S_mul_r]
    exact S_congr fun i _ => (less_mul (Int.le_of_lt hb')).symm
  have e2 : S (fun i => less (cap i) (b * b') (t' * w i * b)) (wtd n w) = total * b * b' := by
    rw [mul_right_swap, ← h2, ← S_mul_r]
    exact S_congr fun i _ => by rw [less_mul (Int.le_of_lt hb), Int.mul_comm b' b]
  have lt : ∀ i ∈ wtd n w, t * w i * b' < t' * w i * b := fun i hi => by
    have hw := (wtd_mem.mp hi).2
    rw [mul_right_swap, mul_right_swap t']
    exact Int.mul_lt_mul_of_pos_right h hw
  have hall := S_eq_all (f := fun i => less (cap i) (b * b') (t * w i * b')) (g := fun i => less (cap i) (b * b') (t' * w i * b)) (R := wtd n w) (fun i hi => less_mono (Int.le_of_lt (lt i hi))) (by rw [e1, e2])
  have held : ∀ i ∈ wtd n w, ∃ c, cap i = some c ∧ c * (b * b') ≤ t * w i * b' := fun i hi => by
    have he := hall i hi
    have hl := lt i hi
    cases hc : cap i with
    | none => rw [hc] at he; simp only [less] at he; omega
    | some c =>
      rw [hc] at he
      simp only [less] at he
      exact ⟨c, rfl, by omega⟩
  refine ⟨fun i hi hw => ?_, ?_⟩
  · obtain ⟨c, e, _⟩ := held i (wtd_mem.mpr ⟨hi, hw⟩)
    rw [e]; rfl
  · have e3 : S (fun i => less (cap i) (b * b') (t * w i * b')) (wtd n w) = S (capN cap) (wtd n w) * (b * b') := by
      rw [← S_mul_r]
      refine S_congr fun i hi => ?_
      obtain ⟨c, e, hle⟩ := held i hi
      unfold capN
      rw [e]
      show min (c * (b * b')) (t * w i * b') = c * (b * b')
      omega
    rw [e3, Int.mul_assoc] at e1
    exact Int.eq_of_mul_eq_mul_right (Int.ne_of_gt (Int.mul_pos hb hb')) e1
/-- what is dealt is told by the spec -/
theorem Dealt.uniq {lv lv' : Option (Int × Int)} {fs fs' : List Int} (d : Dealt n w cap total lv fs) (d' : Dealt n w cap total lv' fs') : lv = lv' ∧ fs = fs' := by
  have hlv : lv = lv' := by
    cases e : lv with
    | none =>
      cases e' : lv' with
      | none => rfl
      | some tb' =>
        obtain ⟨_, _, _, hno, _⟩ := d'.lev tb'.1 tb'.2 e'
        obtain ⟨h1, h2⟩ := d.non e
        exact absurd ⟨fun i hi hw => by obtain ⟨c, e, _⟩ := h1 i hi hw; rw [e]; rfl, h2⟩ hno
    | some tb =>
      obtain ⟨t, b⟩ := tb
      obtain ⟨t0, b0, hg, hno, hs, _⟩ := d.lev t b e
      cases e' : lv' with
      | none =>
        obtain ⟨h1, h2⟩ := d'.non e'
        exact absurd ⟨fun i hi hw => by obtain ⟨c, e, _⟩ := h1 i hi hw; rw [e]; rfl, h2⟩ hno
      | some tb' =>
        obtain ⟨t', b'⟩ := tb'
        obtain ⟨t0', b0', hg', hno', hs', _⟩ := d'.lev t' b' e'
        have h : t * b' = t' * b := by
          rcases Int.lt_trichotomy (t * b') (t' * b) with h | h | h
          · obtain ⟨h1, h2⟩ := lev_lt b0 b0' hs hs' h
            exact absurd ⟨h1, by omega⟩ hno
          · exact h
          · obtain ⟨h1, h2⟩ := lev_lt b0' b0 hs' hs h
            exact absurd ⟨h1, by omega⟩ hno
        obtain ⟨rfl, rfl⟩ := lowest_uniq t0 t0' b0 b0' hg hg' h
        rfl
  subst hlv
  refine ⟨rfl, List.ext_getElem? fun i => ?_⟩
  by_cases hi : i < n
  · by_cases hw : 0 < w i
    · cases e : lv with
      | none =>
        obtain ⟨c, h1, h2⟩ := (d.non e).1 i hi hw
        obtain ⟨c', h1', h2'⟩ := (d'.non e).1 i hi hw
        rw [h1] at h1'
        cases h1'
        rw [h2, h2']
      | some tb =>
        obtain ⟨_, _, _, _, _, h⟩ := d.lev tb.1 tb.2 e
        obtain ⟨_, _, _, _, _, h'⟩ := d'.lev tb.1 tb.2 e
        rw [h i hi hw, h' i hi hw]
    · rw [d.zero i hi (by omega), d'.zero i hi (by omega)]
  · rw [List.getElem?_eq_none (by rw [d.len]; omega), List.getElem?_eq_none (by rw [d'.len]; omega)]
end
section
variable {fl : Nat → Int}
theorem levf_lt {t b t' b' : Int} (hw : ∀ i, i < n → 0 ≤ w i) (hfl : ∀ i, i < n → 0 ≤ fl i) (hb : 0 < b) (hb' : 0 < b') (h1 : S (fun i => max (fl i * b) (t * w i)) (List.range n) = total * b) (h2 : S (fun i => max (fl i * b') (t' * w i)) (List.range n) = total * b')
    (h : t * b' < t' * b) : S fl (List.range n) = total := by
  have mm : ∀ x y k : Int, 0 ≤ k → max x y * k = max (x * k) (y * k) := fun x y k hk => by
    by_cases h : x ≤ y
    · rw [Int.max_eq_right h, Int.max_eq_right (Int.mul_le_mul_of_nonneg_right h hk)]
    · rw [Int.max_eq_left (by omega), Int.max_eq_left (Int.mul_le_mul_of_nonneg_right (by omega) hk)]
  have e1 : S (fun i => max (fl i * (b * b')) (t * b' * w i)) (List.range n) = total * b * b' := by
    rw [← h1, ← S_mul_r]
    exact S_congr fun i _ => by rw [mm _ _ _ (Int.le_of_lt hb'), ← Int.mul_assoc (fl i) b b', mul_right_swap t b' (w i)]
  have e2 : S (fun i => max (fl i * (b * b')) (t' * b * w i)) (List.range n) = total * b * b' := by
    rw [mul_right_swap, ← h2, ← S_mul_r]
    exact S_congr fun i _ => by rw [mm _ _ _ (Int.le_of_lt hb), mul_right_swap (fl i) b' b, ← Int.mul_assoc (fl i) b b', mul_right_swap t' b (w i)]
  have le : ∀ i ∈ List.range n, t * b' * w i ≤ t' * b * w i := fun i hi => Int.mul_le_mul_of_nonneg_right (Int.le_of_lt h) (hw i (List.mem_range.mp hi))
  have hall := S_eq_all (f := fun i => max (fl i * (b * b')) (t * b' * w i)) (g := fun i => max (fl i * (b * b')) (t' * b * w i)) (R := List.range n) (fun i hi => by have := le i hi; show max _ _ ≤ max _ _; omega) (by rw [e1, e2])
  have held : ∀ i ∈ List.range n, max (fl i * (b * b')) (t' * b * w i) = fl i * (b * b') := fun i hi => by
    have he := hall i hi
    have hi' := List.mem_range.mp hi
    by_cases hw0 : w i = 0
    · rw [hw0, Int.mul_zero]
      have := Int.mul_nonneg (hfl i hi') (Int.le_of_lt (Int.mul_pos hb hb'))
      omega
    · have : t * b' * w i < t' * b * w i := Int.mul_lt_mul_of_pos_right h (by have := hw i hi'; omega)
      have he : max (fl i * (b * b')) (t * b' * w i) = max (fl i * (b * b')) (t' * b * w i) := he
      omega
  have e3 : S (fun i => max (fl i * (b * b')) (t' * b * w i)) (List.range n) = S fl (List.range n) * (b * b') := by
    rw [← S_mul_r]
    exact S_congr held
  rw [e3, Int.mul_assoc] at e2
  exact Int.eq_of_mul_eq_mul_right (Int.ne_of_gt (Int.mul_pos hb hb')) e2
theorem Lev.uniq (hw : ∀ i, i < n → 0 ≤ w i) (hfl : ∀ i, i < n → 0 ≤ fl i) {lv lv' : Option (Int × Int)} {fs fs' : List Int} (d : Lev n w fl total lv fs) (d' : Lev n w fl total lv' fs') : lv = lv' ∧ fs = fs' := by
  have hlv : lv = lv' := by
    cases e : lv with
    | none =>
      cases e' : lv' with
      | none => rfl
      | some tb' =>
        obtain ⟨_, _, _, hno, _⟩ := d'.lev tb'.1 tb'.2 e'
        exact absurd (d.non e).2 hno
    | some tb =>
      obtain ⟨t, b⟩ := tb
      obtain ⟨t0, b0, hg, hno, hs, _⟩ := d.lev t b e
      cases e' : lv' with
      | none => exact absurd (d'.non e').2 hno
      | some tb' =>
        obtain ⟨t', b'⟩ := tb'
        obtain ⟨t0', b0', hg', hno', hs', _⟩ := d'.lev t' b' e'
        have h : t * b' = t' * b := by
          rcases Int.lt_trichotomy (t * b') (t' * b) with h | h | h
          · have := levf_lt hw hfl b0 b0' hs hs' h
            exact absurd (.inr (by omega)) hno
          · exact h
          · have := levf_lt hw hfl b0' b0 hs' hs h
            exact absurd (.inr (by omega)) hno
        obtain ⟨rfl, rfl⟩ := lowest_uniq t0 t0' b0 b0' hg hg' h
        rfl
  subst hlv
  refine ⟨rfl, List.ext_getElem? fun i => ?_⟩
  by_cases hi : i < n
  · cases e : lv with
    | none => rw [(d.non e).1 i hi, (d'.non e).1 i hi]
    | some tb =>
      obtain ⟨_, _, _, _, _, _, h⟩ := d.lev tb.1 tb.2 e
      obtain ⟨_, _, _, _, _, _, h'⟩ := d'.lev tb.1 tb.2 e
      rw [h i hi, h' i hi]
  · rw [List.getElem?_eq_none (by rw [d.len]; omega), List.getElem?_eq_none (by rw [d'.len]; omega)]
end
end
end My

/-! ### levels that are known: plain mathematics -/
namespace My
open PySem L2
section
variable {n : Nat} {u : Nat → Int} {lt lb : Int}
theorem pre_mult (u : Nat → Int) (lb : Int) (p : Nat → Bool) : ∀ i, pre (fun i => u i * lb) p i = pre u p i * lb
  | 0 => by simp [pre]
  | i + 1 => by
    simp only [pre]
    rw [pre_mult u lb p i]
    cases p i <;> simp [Int.add_mul]
theorem part_mult (hb : 0 < lb) (x v : Int) : part lt lb (x * lb) (v * lb) = v * lt := by
  unfold part
  have e1 : lt * (x * lb + v * lb) = lt * (x + v) * lb := by rw [← Int.add_mul, Int.mul_assoc]
  have e2 : lt * (x * lb) = lt * x * lb := (Int.mul_assoc ..).symm
  rw [e1, e2, Int.mul_ediv_cancel _ (by omega), Int.mul_ediv_cancel _ (by omega), Int.mul_add, Int.mul_comm v lt]
  omega
theorem S_filter_zero {f : Nat → Int} {p : Nat → Bool} : ∀ {R : List Nat}, (∀ i ∈ R, p i = false → f i = 0) → S f (R.filter p) = S f R
  | [], _ => rfl
  | i :: R, h => by
    have ih := S_filter_zero (R := R) fun j hj => h j (List.mem_cons_of_mem _ hj)
    rw [List.filter_cons, S_cons]
    cases hp : p i with
    | true => rw [if_pos rfl, S_cons, ih]
    | false => rw [if_neg (by simp), ih, h i (List.mem_cons_self ..) hp]; omega
section
variable {cap : Nat → Option Int} {fs : List Int} {total : Int}
theorem wpos_iff (hb : 0 < lb) (i : Nat) : 0 < u i * lb ↔ 0 < u i := ⟨fun h => Int.pos_of_mul_pos_left h hb, fun h => Int.mul_pos h hb⟩
/-- some one is open -/
theorem known_open (hu : ∀ i, i < n → 0 ≤ u i) (hc : ∀ i c, cap i = some c → 0 ≤ c) (ht : 0 < lt) (hb : 0 < lb) (hg : Int.gcd lt lb = 1) (hl : fs.length = n) (hf : ∀ i, i < n → fs[i]? = some (less (cap i) 1 (u i * lt)))
    (hT : total = S (fun i => less (cap i) 1 (u i * lt)) (List.range n)) (ho : ∃ i, i < n ∧ 0 < u i * lt ∧ ∀ c, cap i = some c → u i * lt < c) : Dealt n (fun i => u i * lb) cap total (some (lt, lb)) fs := by
  have zero : ∀ i, i < n → u i = 0 → less (cap i) 1 (u i * lt) = 0 := fun i hi h => by
    rw [h, Int.zero_mul]
    cases e : cap i with
    | none => rfl
    | some c => have := hc i c e; show min (c * 1) 0 = 0; omega
  have z2 : ∀ i ∈ List.range n, decide (0 < u i * lb) = false → less (cap i) 1 (u i * lt) = 0 := fun i hi h => by
    have hi' := List.mem_range.mp hi
    have h1 : ¬ 0 < u i * lb := of_decide_eq_false h
    rw [wpos_iff hb] at h1
    exact zero i hi' (by have := hu i hi'; omega)
  have eT : S (fun i => less (cap i) 1 (u i * lt)) (wtd n fun i => u i * lb) = total := by
    rw [hT]; exact S_filter_zero z2
  refine ⟨hl, fun i hi h => ?_, (fun h => by cases h), fun t b h => ?_⟩
  · rw [hf i hi, zero i hi]
    have h1 : ¬ 0 < u i := fun z => by have h1 := (wpos_iff (u := u) hb i).mpr z; have h2 : u i * lb ≤ 0 := h; omega
    have := hu i hi; omega
  cases h
  refine ⟨by omega, hb, hg, fun ⟨h1, h2⟩ => ?_, ?_, fun i hi hw => ?_⟩
  · obtain ⟨i, hi, hp, hop⟩ := ho
    have hui : 0 < u i := Int.pos_of_mul_pos_left hp ht
    have him : i ∈ wtd n fun i => u i * lb := wtd_mem.mpr ⟨hi, (wpos_iff hb i).mpr hui⟩
    have hle : ∀ j ∈ wtd n fun i => u i * lb, less (cap j) 1 (u j * lt) ≤ capN cap j := fun j hj => by
      obtain ⟨c, e⟩ := Option.isSome_iff_exists.mp (h1 j (wtd_mem.mp hj).1 (wtd_mem.mp hj).2)
      unfold capN
      rw [e]
      show min (c * 1) _ ≤ c
      omega
    have hle2 := S_le hle
    have heq := S_eq_all hle (by omega) i him
    obtain ⟨c, e⟩ := Option.isSome_iff_exists.mp (h1 i hi ((wpos_iff hb i).mpr hui))
    have := hop c e
    unfold capN at heq
    rw [e] at heq
    have heq : min (c * 1) (u i * lt) = c := heq
    omega
  · rw [← eT, ← S_mul_r]
    refine S_congr fun i _ => ?_
    rw [less_mul (Int.le_of_lt hb), Int.one_mul]
    congr 1
    rw [Int.mul_comm lt, mul_right_swap]
  · rw [hf i hi]
    congr 1
    cases e : cap i with
    | none =>
      have eh : heldB lt lb (fun i => u i * lb) cap i = false := by unfold heldB; rw [e]
      rw [eh, pre_mult, part_mult hb]; rfl
    | some c =>
      have cmp : (c * lb ≤ lt * (u i * lb)) ↔ c ≤ u i * lt := by
        rw [← Int.mul_assoc, Int.mul_comm lt]
        exact ⟨fun h => Int.le_of_mul_le_mul_right h hb, fun h => Int.mul_le_mul_of_nonneg_right h (Int.le_of_lt hb)⟩
      rw [heldB_iff e, pre_mult, part_mult hb]
      unfold capN
      rw [e]
      show min (c * 1) (u i * lt) = _
      by_cases h : c ≤ u i * lt
      · rw [decide_eq_true (cmp.mpr h), if_pos rfl]
        show _ = c
        omega
      · rw [decide_eq_false (fun z => h (cmp.mp z)), if_neg (by simp)]
        omega
/-- nobody is open -/
theorem known_shut (hu : ∀ i, i < n → 0 ≤ u i) (hc : ∀ i c, cap i = some c → 0 ≤ c) (ht : 0 < lt) (hb : 0 < lb) (hl : fs.length = n) (hf : ∀ i, i < n → fs[i]? = some (less (cap i) 1 (u i * lt)))
    (hT : total = S (fun i => less (cap i) 1 (u i * lt)) (List.range n)) (ho : ∀ i, i < n → 0 < u i * lt → ∃ c, cap i = some c ∧ c ≤ u i * lt) : Dealt n (fun i => u i * lb) cap total none fs := by
  have zero : ∀ i, i < n → u i = 0 → less (cap i) 1 (u i * lt) = 0 := fun i hi h => by
    rw [h, Int.zero_mul]
    cases e : cap i with
    | none => rfl
    | some c => have := hc i c e; show min (c * 1) 0 = 0; omega
  have z2 : ∀ i ∈ List.range n, decide (0 < u i * lb) = false → less (cap i) 1 (u i * lt) = 0 := fun i hi h => by
    have hi' := List.mem_range.mp hi
    have h1 : ¬ 0 < u i * lb := of_decide_eq_false h
    rw [wpos_iff hb] at h1
    exact zero i hi' (by have := hu i hi'; omega)
  have eT : S (fun i => less (cap i) 1 (u i * lt)) (wtd n fun i => u i * lb) = total := by
    rw [hT]; exact S_filter_zero z2
  have hop : ∀ i, i < n → 0 < u i * lb → ∃ c, cap i = some c ∧ c ≤ u i * lt := fun i hi h => ho i hi (Int.mul_pos ((wpos_iff hb i).mp h) ht)
  refine ⟨hl, fun i hi h => ?_, fun _ => ⟨fun i hi h => ?_, ?_⟩, fun t b h => by cases h⟩
  · rw [hf i hi, zero i hi]
    have h1 : ¬ 0 < u i := fun z => by have h1 := (wpos_iff (u := u) hb i).mpr z; have h2 : u i * lb ≤ 0 := h; omega
    have := hu i hi; omega
  · obtain ⟨c, e, h1⟩ := hop i hi h
    refine ⟨c, e, ?_⟩
    rw [hf i hi, e]
    show some (min (c * 1) (u i * lt)) = some c
    congr 1
    omega
  · rw [← eT]
    refine S_le fun i hi => ?_
    obtain ⟨c, e, h1⟩ := hop i (wtd_mem.mp hi).1 (wtd_mem.mp hi).2
    unfold capN
    rw [e]
    show c ≤ min (c * 1) (u i * lt)
    omega
/-- nothing is dealt: nobody has a cap above 0, or the level is 0 -/
theorem known_nought (w : Nat → Int) (hc : ∀ i c, cap i = some c → 0 ≤ c) : ((∀ i, i < n → 0 < w i → cap i = some 0) → Dealt n w cap 0 none (List.replicate n 0)) ∧ (¬ (∀ i, i < n → 0 < w i → cap i = some 0) → Dealt n w cap 0 (some (0, 1)) (List.replicate n 0)) := by
  have r0 : ∀ i, i < n → (List.replicate n (0 : Int))[i]? = some 0 := fun i hi => by rw [List.getElem?_replicate, if_pos hi]
  refine ⟨fun h => ⟨List.length_replicate, fun i hi _ => r0 i hi, fun _ => ⟨fun i hi hw => ⟨0, h i hi hw, r0 i hi⟩, ?_⟩, fun t b e => by cases e⟩, fun h => ⟨List.length_replicate, fun i hi _ => r0 i hi, (fun e => by cases e), fun t b e => ?_⟩⟩
  · have e : S (capN cap) (wtd n w) = S (fun _ => 0 * 0) (wtd n w) := S_congr fun i hi => by
      unfold capN
      rw [h i (wtd_mem.mp hi).1 (wtd_mem.mp hi).2]; rfl
    rw [e, S_mul]; omega
  · cases e
    refine ⟨by decide, by decide, by decide, fun ⟨h1, h2⟩ => h fun i hi hw => ?_, ?_, fun i hi hw => ?_⟩
    · have him : i ∈ wtd n w := wtd_mem.mpr ⟨hi, hw⟩
      have hge : ∀ j ∈ wtd n w, 0 * 0 ≤ capN cap j := fun j hj => by
        unfold capN
        cases e : cap j with
        | none => decide
        | some c => exact hc j c e
      have h3 : S (fun _ => 0 * 0) (wtd n w) = 0 := by rw [S_mul, Int.zero_mul]
      have h4 := S_le hge
      have := S_eq_all hge (by omega) i him
      obtain ⟨c, e⟩ := Option.isSome_iff_exists.mp (h1 i hi hw)
      unfold capN at this
      rw [e] at this ⊢
      have : 0 * 0 = c := this
      rw [← this]; rfl
    · have e : S (fun i => less (cap i) 1 (0 * w i)) (wtd n w) = S (fun _ => 0 * 0) (wtd n w) := S_congr fun i hi => by
        rw [Int.zero_mul]
        cases e : cap i with
        | none => rfl
        | some c => have := hc i c e; show min (c * 1) 0 = 0 * 0; omega
      rw [e, S_mul]; omega
    · rw [r0 i hi]
      congr 1
      have ep : part 0 1 (pre w (restB 0 1 w cap) i) (w i) = 0 := by unfold part; simp
      cases e : cap i with
      | none =>
        have eh : heldB 0 1 w cap i = false := by unfold heldB; rw [e]
        rw [eh, ep]; rfl
      | some c =>
        rw [heldB_iff e, ep]
        have := hc i c e
        unfold capN
        rw [e, Int.zero_mul]
        by_cases h : c * 1 ≤ 0
        · rw [decide_eq_true h, if_pos rfl]; show 0 = c; omega
        · rw [decide_eq_false h]; rfl
end
section
variable {fl : Nat → Int} {fs : List Int} {total : Int}
theorem known_lev (hu : ∀ i, i < n → 0 ≤ u i) (hfl : ∀ i, i < n → 0 ≤ fl i) (ht : 0 ≤ lt) (hb : 0 < lb) (hg : Int.gcd lt lb = 1) (hl : fs.length = n) (hf : ∀ i, i < n → fs[i]? = some (max (fl i) (u i * lt)))
    (hT : total = fs.sum) (ho : ∃ i, i < n ∧ fl i < u i * lt) : Lev n (fun i => u i * lb) fl total (some (lt, lb)) fs := by
  have eT : total = S (fun i => max (fl i) (u i * lt)) (List.range n) := by
    rw [hT, ← S_range, hl]
    exact S_congr fun i hi => by
      unfold wAt
      rw [List.getD_eq_getElem?_getD, hf i (List.mem_range.mp hi)]; rfl
  refine ⟨hl, (fun h => by cases h), fun t b h => ?_⟩
  cases h
  obtain ⟨i, hi, hop⟩ := ho
  have f0 := hfl i hi
  have hui : 0 < u i := by
    have h1 : 0 < u i * lt := by omega
    by_cases h : 0 < u i
    · exact h
    · have : u i = 0 := by have := hu i hi; omega
      rw [this, Int.zero_mul] at h1; omega
  refine ⟨ht, hb, hg, ?_, ?_, hT.symm, fun i hi => ?_⟩
  · rintro (h | h)
    · have h0 : ∀ j ∈ List.range n, 0 * 0 ≤ u j * lb := fun j hj => Int.mul_nonneg (hu j (List.mem_range.mp hj)) (Int.le_of_lt hb)
      have h3 : S (fun _ => 0 * 0) (List.range n) = 0 := by rw [S_mul, Int.zero_mul]
      have h4 : 0 * 0 = u i * lb := S_eq_all h0 (by rw [h3]; exact h.symm) i (List.mem_range.mpr hi)
      have := Int.mul_pos hui hb
      omega
    · have hle : ∀ j ∈ List.range n, fl j ≤ max (fl j) (u j * lt) := fun j _ => by omega
      have h4 := S_le hle
      have := S_eq_all hle (by omega) i (List.mem_range.mpr hi)
      omega
  · rw [eT, ← S_mul_r]
    refine S_congr fun i _ => ?_
    have e : lt * (u i * lb) = u i * lt * lb := by rw [← Int.mul_assoc, Int.mul_comm lt]
    show max (fl i * lb) (lt * (u i * lb)) = max (fl i) (u i * lt) * lb
    rw [e]
    by_cases h : fl i ≤ u i * lt
    · rw [Int.max_eq_right h, Int.max_eq_right (Int.mul_le_mul_of_nonneg_right h (Int.le_of_lt hb))]
    · have h' : u i * lt ≤ fl i := by omega
      rw [Int.max_eq_left h', Int.max_eq_left (Int.mul_le_mul_of_nonneg_right h' (Int.le_of_lt hb))]
  · rw [hf i hi]
    congr 1
    rw [pre_mult, part_mult hb]
    have cmp : (lt * (u i * lb) ≤ fl i * lb) ↔ u i * lt ≤ fl i := by
      rw [← Int.mul_assoc, Int.mul_comm lt]
      exact ⟨fun h => Int.le_of_mul_le_mul_right h hb, fun h => Int.mul_le_mul_of_nonneg_right h (Int.le_of_lt hb)⟩
    have er : restL lt lb (fun i => u i * lb) fl i = decide (fl i < u i * lt) := by
      unfold restL highB
      by_cases h : fl i < u i * lt
      · have f0 := hfl i hi
        have hui : 0 < u i := by
          by_cases h' : 0 < u i
          · exact h'
          · have : u i = 0 := by have := hu i hi; omega
            rw [this, Int.zero_mul] at h; omega
        rw [decide_eq_true h, decide_eq_true (Int.mul_pos hui hb), decide_eq_false (fun z => by have := cmp.mp z; omega)]; rfl
      · rw [decide_eq_false h, decide_eq_true (cmp.mpr (by omega))]; simp
    rw [er]
    by_cases h : fl i < u i * lt
    · rw [decide_eq_true h, if_pos rfl]; omega
    · rw [decide_eq_false h, if_neg (by simp)]; omega
theorem known_flat (w : Nat → Int) (hl : fs.length = n) (hf : ∀ i, i < n → fs[i]? = some (fl i)) (hT : total ≤ S fl (List.range n)) : Lev n w fl total none fs :=
  ⟨hl, fun _ => ⟨hf, .inr hT⟩, fun t b h => by cases h⟩
end
end
end My

/-! ### what is told (a level and parts) as data -/
namespace My
open PySem L2
theorem wAt_mul (us : List Int) (k : Int) : wAt (us.map fun u => u * k) = fun i => wAt us i * k := by
  funext i
  unfold wAt
  rw [List.getD_eq_getElem?_getD, List.getElem?_map, List.getD_eq_getElem?_getD]
  cases us[i]? with
  | none => simp
  | some z => rfl
def lvD : Option (Int × Int) → PyData
  | none => .none
  | some (t, b) => .tuple [.int t, .int b]
def toldD (lv : Option (Int × Int)) (fs : List Int) : PyData := .tuple [lvD lv, .list (fs.map .int)]
section
variable {K : PySem.W.Frag} {H : Hp}
theorem dp_lv {lv : Option (Int × Int)} {v : V} (h : LvAt H lv v) : Dp K H v (lvD lv) := by
  cases lv with
  | none =>
    have : v = .non := h
    subst this
    exact .non
  | some tb =>
    obtain ⟨r, rfl, hr⟩ := h
    exact .tup (sqT hr) (.cons (.int _) (.cons (.int _) .nil))
theorem dp_told {p q : Addr} {lv : Option (Int × Int)} {v : V} {fs : List Int} (hp : H p = some (.tup [v, .ref q])) (hq : H q = some (.lst (fs.map .int))) (h : LvAt H lv v) : Dp K H (.ref p) (toldD lv fs) :=
  .tup (sqT hp) (.cons (dp_lv h) (.cons (dp_ints (sqL hq)) .nil))
end
theorem LvAt.mono {H H' : Hp} {lv : Option (Int × Int)} {v : V} (h : LvAt H lv v) (s : Same H H') : LvAt H' lv v := by
  cases lv with
  | none => exact h
  | some tb => obtain ⟨r, e1, e2⟩ := h; exact ⟨r, e1, s _ _ e2⟩
theorem told_shaped (lv : Option (Int × Int)) (fs : List Int) : SeqAt.shaped (toldD lv fs) = true := by
  unfold SeqAt.shaped toldD
  have c2 := canLayAll0_map (g := PyData.int) (fun x => by simp [PyData.canLay0]) fs
  have d2 := depthAll_map (g := PyData.int) (m := 0) (fun x => by simp [PyData.depth]) fs
  have c1 : (lvD lv).canLay0 = true := by cases lv <;> simp [lvD, PyData.canLay0, PyData.canLayAll0]
  have d1 : (lvD lv).depth ≤ 1 := by cases lv <;> simp [lvD, PyData.depth, PyData.depthAll]
  rw [Bool.and_eq_true]
  refine ⟨by simp only [PyData.canLay0, PyData.canLayAll0, c1, c2, Bool.and_self], decide_eq_true ?_⟩
  simp only [PyData.depth, PyData.depthAll]; omega
theorem told_nob (lv : Option (Int × Int)) (fs : List Int) : nob (toldD lv fs) = true := by
  have h1 : nob (lvD lv) = true := by cases lv <;> simp [lvD, nob, nobAll]
  have h2 := nobAll_map (g := PyData.int) (fun x => by simp [nob]) fs
  simp only [toldD, nob, nobAll, h1, h2, Bool.and_self]
theorem told_same (lv : Option (Int × Int)) (fs : List Int) : PyData.eqv (toldD lv fs) (toldD lv fs) = true := (eqv_iff (told_nob lv fs) (told_nob lv fs)).mpr rfl
theorem lvD_inj {lv lv' : Option (Int × Int)} (h : lvD lv = lvD lv') : lv = lv' := by
  cases lv with
  | none => cases lv' with
    | none => rfl
    | some b => cases h
  | some a => cases lv' with
    | none => cases h
    | some b =>
      obtain ⟨t, b1⟩ := a
      obtain ⟨t', b'⟩ := b
      simp only [lvD, PyData.tuple.injEq, List.cons.injEq, PyData.int.injEq, and_true] at h
      rw [h.1, h.2]
theorem told_eqv (lv lv' : Option (Int × Int)) (fs fs' : List Int) : PyData.eqv (toldD lv fs) (toldD lv' fs') = decide (lv = lv' ∧ fs = fs') :=
  eqv_dec (told_nob lv fs) (told_nob lv' fs') (by
    rw [decide_eq_true_iff]
    refine ⟨fun ⟨e1, e2⟩ => by rw [e1, e2], fun e => ?_⟩
    simp only [toldD, PyData.tuple.injEq, List.cons.injEq, and_true, PyData.list.injEq] at e
    exact ⟨lvD_inj e.1, map_inj (fun a b h => PyData.int.inj h) e.2⟩)
theorem lv_nob (lv : Option (Int × Int)) : nob (lvD lv) = true := by cases lv <;> simp [lvD, nob, nobAll]
theorem lv_shaped (lv : Option (Int × Int)) : SeqAt.shaped (lvD lv) = true := by
  unfold SeqAt.shaped
  have c1 : (lvD lv).canLay0 = true := by cases lv <;> simp [lvD, PyData.canLay0, PyData.canLayAll0]
  have d1 : (lvD lv).depth ≤ 1 := by cases lv <;> simp [lvD, PyData.depth, PyData.depthAll]
  rw [Bool.and_eq_true]
  exact ⟨c1, decide_eq_true (by omega)⟩
theorem lv_same (lv : Option (Int × Int)) : PyData.eqv (lvD lv) (lvD lv) = true := (eqv_iff (lv_nob lv) (lv_nob lv)).mpr rfl
theorem lv_eqv (lv lv' : Option (Int × Int)) : PyData.eqv (lvD lv) (lvD lv') = decide (lv = lv') :=
  eqv_dec (lv_nob lv) (lv_nob lv') (by
    rw [decide_eq_true_iff]
    exact ⟨fun e => by rw [e], lvD_inj⟩)
end My

/-! ### the same question in another order, with a stranger, by other weights: plain mathematics -/
namespace My
open PySem L2
theorem S_ite (f : Nat → Int) (p : Nat → Bool) : ∀ R : List Nat, S f (R.filter p) = S (fun i => if p i = true then f i else 0) R
  | [] => rfl
  | i :: R => by
    rw [List.filter_cons, S_cons, ← S_ite f p R]
    cases p i <;> simp [S_cons]
theorem S_perm {f : Nat → Int} {R T : List Nat} (h : R.Perm T) : S f R = S f T := by
  induction h with
  | nil => rfl
  | cons x _ ih => rw [S_cons, S_cons, ih]
  | swap x y l => simp only [S_cons]; omega
  | trans _ _ a b => rw [a, b]
abbrev oAt (o : List Nat) (j : Nat) : Nat := o.getD j o.length
theorem S_order {f : Nat → Int} {o : List Nat} {n : Nat} (ho : o.Perm (List.range n)) : S (fun j => f (oAt o j)) (List.range n) = S f (List.range n) := by
  have hl : o.length = n := by rw [ho.length_eq, List.length_range]
  have : (List.range n).map (fun j => f (oAt o j)) = o.map f := by
    apply List.ext_getElem?
    intro i
    rw [List.getElem?_map, List.getElem?_map]
    by_cases h : i < n
    · rw [List.getElem?_range h, List.getElem?_eq_getElem (by omega)]
      show some (f (o.getD i o.length)) = _
      rw [List.getD_eq_getElem?_getD, List.getElem?_eq_getElem (by omega)]; rfl
    · rw [List.getElem?_eq_none (by rw [List.length_range]; omega), List.getElem?_eq_none (by omega)]; rfl
  show ((List.range n).map _).sum = _
  rw [this]
  exact S_perm ho
section
variable {n : Nat} {w : Nat → Int} {cap : Nat → Option Int} {total : Int} {o : List Nat}
theorem S_wtd (f : Nat → Int) : S f (wtd n w) = S (fun i => if 0 < w i then f i else 0) (List.range n) := by
  unfold wtd
  rw [S_ite]
  exact S_congr fun i _ => by by_cases h : 0 < w i <;> simp [h]
theorem oAt_lt (ho : o.Perm (List.range n)) {j : Nat} (hj : j < n) : oAt o j < n := by
  have hl : o.length = n := by rw [ho.length_eq, List.length_range]
  have : o.getD j o.length = o[j] := by rw [List.getD_eq_getElem?_getD, List.getElem?_eq_getElem (by omega)]; rfl
  unfold oAt
  rw [this]
  exact List.mem_range.mp (ho.mem_iff.mp (List.getElem_mem _))
theorem oAt_ex (ho : o.Perm (List.range n)) {i : Nat} (hi : i < n) : ∃ j, j < n ∧ oAt o j = i := by
  have hl : o.length = n := by rw [ho.length_eq, List.length_range]
  obtain ⟨j, hj, e⟩ := List.getElem_of_mem (ho.mem_iff.mpr (List.mem_range.mpr hi))
  exact ⟨j, by omega, by unfold oAt; rw [List.getD_eq_getElem?_getD, List.getElem?_eq_getElem hj]; exact e⟩
/-- the level alone -/
structure IsLev (n : Nat) (w : Nat → Int) (cap : Nat → Option Int) (total : Int) (lv : Option (Int × Int)) : Prop where
  non : lv = none → (∀ i, i < n → 0 < w i → (cap i).isSome = true) ∧ S (capN cap) (wtd n w) ≤ total
  lev : ∀ t b, lv = some (t, b) → 0 ≤ t ∧ 0 < b ∧ Int.gcd t b = 1 ∧ ¬ ((∀ i, i < n → 0 < w i → (cap i).isSome = true) ∧ S (capN cap) (wtd n w) ≤ total) ∧
    S (fun i => less (cap i) b (t * w i)) (wtd n w) = total * b
theorem Dealt.isLev {lv : Option (Int × Int)} {fs : List Int} (d : Dealt n w cap total lv fs) : IsLev n w cap total lv :=
  ⟨fun e => ⟨fun i hi hw => by obtain ⟨c, h, _⟩ := (d.non e).1 i hi hw; rw [h]; rfl, (d.non e).2⟩, fun t b e => by
    obtain ⟨a1, a2, a3, a4, a5, _⟩ := d.lev t b e
    exact ⟨a1, a2, a3, a4, a5⟩⟩
theorem IsLev.uniq {lv lv' : Option (Int × Int)} (d : IsLev n w cap total lv) (d' : IsLev n w cap total lv') : lv = lv' := by
  cases e : lv with
  | none =>
    cases e' : lv' with
    | none => rfl
    | some tb' =>
      obtain ⟨_, _, _, hno, _⟩ := d'.lev tb'.1 tb'.2 e'
      exact absurd (d.non e) hno
  | some tb =>
    obtain ⟨t, b⟩ := tb
    obtain ⟨t0, b0, hg, hno, hs⟩ := d.lev t b e
    cases e' : lv' with
    | none => exact absurd (d'.non e') hno
    | some tb' =>
      obtain ⟨t', b'⟩ := tb'
      obtain ⟨t0', b0', hg', hno', hs'⟩ := d'.lev t' b' e'
      have h : t * b' = t' * b := by
        rcases Int.lt_trichotomy (t * b') (t' * b) with h | h | h
        · obtain ⟨h1, h2⟩ := lev_lt b0 b0' hs hs' h
          exact absurd ⟨h1, by omega⟩ hno
        · exact h
        · obtain ⟨h1, h2⟩ := lev_lt b0' b0 hs' hs h
          exact absurd ⟨h1, by omega⟩ hno
      obtain ⟨rfl, rfl⟩ := lowest_uniq t0 t0' b0 b0' hg hg' h
      rfl
theorem IsLev.order {lv : Option (Int × Int)} (ho : o.Perm (List.range n)) (d : IsLev n (fun j => w (oAt o j)) (fun j => cap (oAt o j)) total lv) : IsLev n w cap total lv := by
  have e0 : (∀ i, i < n → 0 < w (oAt o i) → (cap (oAt o i)).isSome = true) ↔ (∀ i, i < n → 0 < w i → (cap i).isSome = true) := by
    constructor
    · intro h i hi hw
      obtain ⟨j, hj, rfl⟩ := oAt_ex ho hi
      exact h j hj hw
    · intro h j hj hw
      exact h _ (oAt_lt ho hj) hw
  have e1 : ∀ f : Nat → Int, S (fun j => f (oAt o j)) (wtd n fun j => w (oAt o j)) = S f (wtd n w) := fun f => by
    rw [S_wtd, S_wtd]
    exact S_order (f := fun i => if 0 < w i then f i else 0) ho
  have e2 : S (capN fun j => cap (oAt o j)) (wtd n fun j => w (oAt o j)) = S (capN cap) (wtd n w) := e1 (capN cap)
  refine ⟨fun e => ?_, fun t b e => ?_⟩
  · obtain ⟨h1, h2⟩ := d.non e
    rw [e2] at h2
    exact ⟨e0.mp h1, h2⟩
  · obtain ⟨a1, a2, a3, a4, a5⟩ := d.lev t b e
    rw [e2, e0] at a4
    rw [e1 fun i => less (cap i) b (t * w i)] at a5
    exact ⟨a1, a2, a3, a4, a5⟩
/-- one piece: the floor of level times weight, or one more -/
theorem part_near {t b x y v : Int} (hb : 0 < b) : -1 ≤ part t b x v - part t b y v ∧ part t b x v - part t b y v ≤ 1 := by
  have key : ∀ x, t * v / b ≤ part t b x v ∧ part t b x v ≤ t * v / b + 1 := fun x => by
    unfold part
    rw [Int.mul_add]
    have a1 := Int.emod_add_mul_ediv (t * x) b
    have a2 := Int.emod_add_mul_ediv (t * v) b
    have a3 := Int.emod_add_mul_ediv (t * x + t * v) b
    have b1 := Int.emod_nonneg (t * x) (Int.ne_of_gt hb)
    have b2 := Int.emod_nonneg (t * v) (Int.ne_of_gt hb)
    have b3 := Int.emod_nonneg (t * x + t * v) (Int.ne_of_gt hb)
    have c1 := Int.emod_lt_of_pos (t * x) hb
    have c2 := Int.emod_lt_of_pos (t * v) hb
    have c3 := Int.emod_lt_of_pos (t * x + t * v) hb
    generalize (t * x) / b = q1 at *
    generalize (t * v) / b = q2 at *
    generalize (t * x + t * v) / b = q3 at *
    have e : b * (q3 - q1 - q2) = b * q3 - b * q1 - b * q2 := by rw [Int.mul_sub, Int.mul_sub]
    have h1 : -b < b * (q3 - q1 - q2) := by omega
    have h2 : b * (q3 - q1 - q2) < b * 2 := by omega
    have h3 : -1 < q3 - q1 - q2 := Int.lt_of_mul_lt_mul_left (a := b) (by omega) (Int.le_of_lt hb)
    have h4 : q3 - q1 - q2 < 2 := Int.lt_of_mul_lt_mul_left h2 (Int.le_of_lt hb)
    omega
  have := key x
  have := key y
  omega
/-- whether one gets its bound, or nothing, for certain -/
def heldK (kind : Bool) (lv : Option (Int × Int)) (c : Option Int) (v : Int) : Bool := match lv with
  | none => true
  | some (t, b) => if v = 0 then true else match c with
    | none => false
    | some c => if kind = false then decide (c * b ≤ t * v) else decide (t * v ≤ c * b)
theorem Dealt.order {lv lv' : Option (Int × Int)} {fs fs' : List Int} (hw : ∀ i, i < n → 0 ≤ w i) (ho : o.Perm (List.range n)) (d : Dealt n w cap total lv fs) (d' : Dealt n (fun j => w (oAt o j)) (fun j => cap (oAt o j)) total lv' fs') :
    lv' = lv ∧ ∀ j, j < n → ∃ x y, fs'[j]? = some x ∧ fs[oAt o j]? = some y ∧ -1 ≤ x - y ∧ x - y ≤ 1 ∧ (x - y ≠ 0 → heldK false lv (cap (oAt o j)) (w (oAt o j)) = false) := by
  have hlv : lv' = lv := IsLev.uniq (IsLev.order ho d'.isLev) d.isLev
  subst hlv
  refine ⟨rfl, fun j hj => ?_⟩
  have hi := oAt_lt ho hj
  by_cases hv : 0 < w (oAt o j)
  · cases e : lv' with
    | none =>
      obtain ⟨c, h1, h2⟩ := (d.non e).1 _ hi hv
      obtain ⟨c', h1', h2'⟩ := (d'.non e).1 j hj hv
      rw [h1] at h1'
      cases h1'
      exact ⟨_, _, h2', h2, by omega, by omega, fun h => absurd (Int.sub_self _) h⟩
    | some tb =>
      obtain ⟨t, b⟩ := tb
      obtain ⟨_, b0, _, _, _, h⟩ := d.lev t b e
      obtain ⟨_, _, _, _, _, h'⟩ := d'.lev t b e
      have hb : heldB t b (fun j => w (oAt o j)) (fun j => cap (oAt o j)) j = heldB t b w cap (oAt o j) := rfl
      have h1 := h _ hi hv
      have h2 := h' j hj hv
      rw [hb] at h2
      refine ⟨_, _, h2, h1, ?_⟩
      cases hh : heldB t b w cap (oAt o j) with
      | true => exact ⟨by simp [capN], by simp [capN], fun h => absurd (by simp [capN]) h⟩
      | false =>
        have p := part_near (t := t) (b := b) (x := pre (fun j => w (oAt o j)) (restB t b (fun j => w (oAt o j)) fun j => cap (oAt o j)) j) (y := pre w (restB t b w cap) (oAt o j)) (v := w (oAt o j)) b0
        refine ⟨by simpa using p.1, by simpa using p.2, fun _ => ?_⟩
        unfold heldK
        unfold heldB at hh
        simp only []
        rw [if_neg (by omega)]
        cases hc : cap (oAt o j) with
        | none => rfl
        | some c => rw [hc] at hh; simpa using hh
  · have h0 : w (oAt o j) ≤ 0 := by omega
    exact ⟨_, _, d'.zero j hj h0, d.zero _ hi h0, by omega, by omega, fun h => absurd (Int.sub_self _) h⟩
/-! #### a stranger -/
def ins {α : Type} (k : Nat) (v : α) (f : Nat → α) (i : Nat) : α := if i < k then f i else if i = k then v else f (i - 1)
theorem ins_lt {α : Type} {k i : Nat} {v : α} {f : Nat → α} (h : i < k) : ins k v f i = f i := if_pos h
theorem ins_eq {α : Type} {k : Nat} {v : α} {f : Nat → α} : ins k v f k = v := by unfold ins; rw [if_neg (by omega), if_pos rfl]
theorem ins_gt {α : Type} {k i : Nat} {v : α} {f : Nat → α} (h : k < i) : ins k v f i = f (i - 1) := by unfold ins; rw [if_neg (by omega), if_neg (by omega)]
theorem ins_at {α : Type} {P : Nat → α → Prop} {k n : Nat} {v : α} {f : Nat → α} (hk : k ≤ n) (h1 : ∀ i, i < k → P i (f i)) (h2 : P k v) (h3 : ∀ i, k ≤ i → i < n → P (i + 1) (f i)) : ∀ i, i < n + 1 → P i (ins k v f i) := fun i hi => by
  rcases Nat.lt_trichotomy i k with h | h | h
  · rw [ins_lt h]; exact h1 i h
  · subst h; rw [ins_eq]; exact h2
  · rw [ins_gt h]
    have := h3 (i - 1) (by omega) (by omega)
    rwa [show i - 1 + 1 = i from by omega] at this
theorem ins_cases {Q : Nat → Prop} {k n : Nat} (hk : k ≤ n) (h1 : ∀ i, i < k → Q i) (h2 : Q k) (h3 : ∀ i, k ≤ i → i < n → Q (i + 1)) : ∀ i, i < n + 1 → Q i := fun i hi => by
  rcases Nat.lt_trichotomy i k with h | h | h
  · exact h1 i h
  · subst h; exact h2
  · have := h3 (i - 1) (by omega) (by omega)
    rwa [show i - 1 + 1 = i from by omega] at this
theorem S_ins (f : Nat → Int) (v : Int) {k : Nat} : ∀ {n : Nat}, k ≤ n → S (ins k v f) (List.range (n + 1)) = S f (List.range n) + v := by
  intro n
  induction n with
  | zero => intro h; have : k = 0 := by omega
            subst this; rw [List.range_succ, S_append]; simp [S, ins_eq]
  | succ n ih =>
    intro h
    rw [List.range_succ, S_append]
    by_cases hk : k = n + 1
    · subst hk
      have : S (ins (n + 1) v f) (List.range (n + 1)) = S f (List.range (n + 1)) := S_congr fun i hi => ins_lt (List.mem_range.mp hi)
      rw [this]
      have : S (ins (n + 1) v f) [n + 1] = v := by rw [S_cons, S_nil, ins_eq]; omega
      omega
    · have h2 : k ≤ n := by omega
      rw [ih h2]
      have : S (ins k v f) [n + 1] = f n := by rw [S_cons, S_nil, ins_gt (by omega), Nat.add_sub_cancel]; omega
      rw [this, List.range_succ (n := n), S_append, S_cons, S_nil]; omega
theorem pre_ins (w : Nat → Int) (p : Nat → Bool) (k : Nat) : ∀ i, pre (ins k 0 w) (ins k false p) i = if i ≤ k then pre w p i else pre w p (i - 1)
  | 0 => by simp [pre]
  | i + 1 => by
    simp only [pre]
    rw [pre_ins w p k i]
    rcases Nat.lt_trichotomy i k with h | h | h
    · rw [ins_lt h, ins_lt h, if_pos (show i ≤ k by omega), if_pos (show i + 1 ≤ k by omega)]
    · subst h; rw [ins_eq, ins_eq, if_pos (Nat.le_refl i), if_neg (show ¬ i + 1 ≤ i by omega)]; simp
    · rw [ins_gt h, ins_gt h, if_neg (show ¬ i ≤ k by omega), if_neg (show ¬ i + 1 ≤ k by omega), Nat.add_sub_cancel]
      obtain ⟨m, rfl⟩ : ∃ m, i = m + 1 := ⟨i - 1, by omega⟩
      simp only [Nat.add_sub_cancel]; rfl
theorem insL_at {α : Type} {fs : List α} {v : α} {k : Nat} (hk : k ≤ fs.length) (i : Nat) : (fs.take k ++ [v] ++ fs.drop k)[i]? = ins k (some v) (fun i => fs[i]?) i := by
  rcases Nat.lt_trichotomy i k with h | h | h
  · rw [ins_lt h, List.append_assoc, List.getElem?_append_left (by rw [List.length_take]; omega), List.getElem?_take, if_pos h]
  · subst h
    rw [ins_eq, List.append_assoc, List.getElem?_append_right (by rw [List.length_take]; omega), List.length_take]
    simp [Nat.min_eq_left hk]
  · rw [ins_gt h, List.getElem?_append_right (by simp; omega), List.getElem?_drop]
    congr 1
    simp [Nat.min_eq_left hk]; omega
theorem restB_ins (t b c : Int) (k : Nat) : restB t b (ins k 0 w) (ins k (some c) cap) = ins k false (restB t b w cap) := by
  funext i
  rcases Nat.lt_trichotomy i k with h | h | h
  · rw [ins_lt h]; unfold restB heldB; rw [ins_lt h, ins_lt h]
  · subst h; rw [ins_eq]; unfold restB; rw [ins_eq]; simp
  · rw [ins_gt h]; unfold restB heldB; rw [ins_gt h, ins_gt h]
theorem Dealt.strange {lv : Option (Int × Int)} {fs : List Int} {k : Nat} (c : Int) (hk : k ≤ n) (d : Dealt n w cap total lv fs) : Dealt (n + 1) (ins k 0 w) (ins k (some c) cap) total lv (fs.take k ++ [0] ++ fs.drop k) := by
  have hl := d.len
  have at' := fun i => insL_at (fs := fs) (v := 0) (k := k) (by omega) i
  have sums : ∀ f f' : Nat → Int, (∀ i, i < k → f' i = f i) → (∀ i, k ≤ i → f' (i + 1) = f i) → S f' (wtd (n + 1) (ins k 0 w)) = S f (wtd n w) := fun f f' h1 h2 => by
    rw [S_wtd, S_wtd]
    have : S (fun i => if 0 < My.ins k 0 w i then f' i else 0) (List.range (n + 1)) = S (My.ins k 0 fun i => if 0 < w i then f i else 0) (List.range (n + 1)) := S_congr fun i hi => by
      rcases Nat.lt_trichotomy i k with h | h | h
      · rw [ins_lt h, ins_lt h, h1 i h]
      · subst h; rw [ins_eq, ins_eq]; simp
      · rw [ins_gt h, ins_gt h]
        have := h2 (i - 1) (by omega)
        rw [show i - 1 + 1 = i from by omega] at this
        rw [this]
    rw [this, S_ins _ _ hk]; omega
  have ecap : S (capN (My.ins k (some c) cap)) (wtd (n + 1) (My.ins k 0 w)) = S (capN cap) (wtd n w) := sums _ _ (fun i h => by unfold capN; rw [ins_lt h]) (fun i h => by unfold capN; rw [ins_gt (by omega)]; rfl)
  have eall : (∀ i, i < n + 1 → 0 < My.ins k 0 w i → (My.ins k (some c) cap i).isSome = true) ↔ (∀ i, i < n → 0 < w i → (cap i).isSome = true) := by
    constructor
    · intro h i hi hw
      by_cases hlt : i < k
      · have := h i (by omega); rw [ins_lt hlt, ins_lt hlt] at this; exact this hw
      · have := h (i + 1) (by omega); rw [ins_gt (by omega), ins_gt (by omega), Nat.add_sub_cancel] at this; exact this hw
    · intro h
      refine ins_cases hk (fun i hi => ?_) (fun hw => ?_) (fun i h1 hi => ?_)
      · rw [ins_lt hi, ins_lt hi]; exact h i (by omega)
      · rw [ins_eq] at hw; omega
      · rw [ins_gt (by omega), ins_gt (by omega), Nat.add_sub_cancel]; exact h i hi
  refine ⟨?_, ?_, fun e => ⟨?_, ?_⟩, fun t b e => ?_⟩
  · simp; omega
  · refine ins_cases hk (fun i hi hw => ?_) (fun hw => ?_) (fun i h1 hi hw => ?_)
    · rw [ins_lt hi] at hw; rw [at', ins_lt hi]; exact d.zero i (by omega) hw
    · rw [at', ins_eq]
    · rw [ins_gt (by omega), Nat.add_sub_cancel] at hw; rw [at', ins_gt (by omega), Nat.add_sub_cancel]; exact d.zero i hi hw
  · refine ins_cases hk (fun i hi hw => ?_) (fun hw => ?_) (fun i h1 hi hw => ?_)
    · rw [ins_lt hi] at hw; rw [at', ins_lt hi, ins_lt hi]; exact (d.non e).1 i (by omega) hw
    · rw [ins_eq] at hw; omega
    · rw [ins_gt (by omega), Nat.add_sub_cancel] at hw; rw [at', ins_gt (by omega), ins_gt (by omega), Nat.add_sub_cancel]; exact (d.non e).1 i hi hw
  · rw [ecap]; exact (d.non e).2
  · obtain ⟨a1, a2, a3, a4, a5, a6⟩ := d.lev t b e
    refine ⟨a1, a2, a3, by rw [eall, ecap]; exact a4, ?_, ?_⟩
    · rw [← a5]
      exact sums _ _ (fun i h => by rw [ins_lt h, ins_lt h]) (fun i h => by rw [ins_gt (by omega), ins_gt (by omega)]; rfl)
    · have hp : ∀ i, pre (My.ins k 0 w) (restB t b (My.ins k 0 w) (My.ins k (some c) cap)) i = if i ≤ k then pre w (restB t b w cap) i else pre w (restB t b w cap) (i - 1) := fun i => by rw [restB_ins, pre_ins]
      refine ins_cases hk (fun i hi hw => ?_) (fun hw => ?_) (fun i h1 hi hw => ?_)
      · rw [ins_lt hi] at hw
        rw [at', ins_lt hi, a6 i (by omega) hw, hp, if_pos (show i ≤ k by omega)]
        unfold heldB capN
        rw [ins_lt hi, ins_lt hi]
      · rw [ins_eq] at hw; omega
      · rw [ins_gt (by omega), Nat.add_sub_cancel] at hw
        rw [at', ins_gt (by omega), Nat.add_sub_cancel, a6 i hi hw, hp, if_neg (show ¬ i + 1 ≤ k by omega), Nat.add_sub_cancel]
        unfold heldB capN
        rw [ins_gt (by omega), ins_gt (by omega), Nat.add_sub_cancel]
/-! #### other weights -/
def mulLv (lv : Option (Int × Int)) (f : Int) : Option (Int × Int) := lv.map fun tb => (tb.1 / (Int.gcd tb.1 f : Int), tb.2 * (f / (Int.gcd tb.1 f : Int)))
structure Mul (t b f t' b' : Int) : Prop where
  t0 : 0 ≤ t'
  b0 : 0 < b'
  g : Int.gcd t' b' = 1
  ex : ∃ F, 0 < F ∧ b' = b * F ∧ ∀ x, t' * (x * f) = t * x * F
theorem mul_of {t b f : Int} (t0 : 0 ≤ t) (b0 : 0 < b) (f0 : 0 < f) (hg : Int.gcd t b = 1) : Mul t b f (t / (Int.gcd t f : Int)) (b * (f / (Int.gcd t f : Int))) := by
  have g0 : 0 < Int.gcd t f := Int.gcd_pos_of_ne_zero_right _ (by omega)
  have g0' : (0 : Int) < (Int.gcd t f : Int) := by omega
  have eT : t / (Int.gcd t f : Int) * (Int.gcd t f : Int) = t := Int.ediv_mul_cancel (Int.gcd_dvd_left ..)
  have eF : f / (Int.gcd t f : Int) * (Int.gcd t f : Int) = f := Int.ediv_mul_cancel (Int.gcd_dvd_right ..)
  have hF : 0 < f / (Int.gcd t f : Int) := Int.pos_of_mul_pos_left (by rw [eF]; exact f0) g0'
  have hcop : Int.gcd (t / (Int.gcd t f : Int)) (f / (Int.gcd t f : Int)) = 1 := Int.gcd_ediv_gcd_ediv_gcd g0
  refine ⟨Int.ediv_nonneg t0 (Int.le_of_lt g0'), Int.mul_pos b0 hF, ?_, _, hF, rfl, fun x => ?_⟩
  · have h1 : Nat.Coprime (t / (Int.gcd t f : Int)).natAbs b.natAbs := by
      refine Nat.Coprime.coprime_dvd_left (k := t.natAbs) ?_ hg
      exact Int.natAbs_dvd_natAbs.mpr ⟨_, eT.symm⟩
    show Nat.Coprime _ _
    rw [Int.natAbs_mul]
    exact Nat.Coprime.mul_right h1 hcop
  · generalize t / (Int.gcd t f : Int) = T at *
    generalize f / (Int.gcd t f : Int) = F at *
    generalize (Int.gcd t f : Int) = g at *
    rw [← eT, ← eF]
    simp only [Int.mul_assoc, Int.mul_comm, Int.mul_left_comm]
theorem part_mul {t b f t' b' : Int} (m : Mul t b f t' b') (x v : Int) : part t' b' (x * f) (v * f) = part t b x v := by
  obtain ⟨F, F0, rfl, h⟩ := m.ex
  unfold part
  rw [← Int.add_mul, h, h, Int.mul_ediv_mul_of_pos_left _ _ F0, Int.mul_ediv_mul_of_pos_left _ _ F0]
theorem pre_mul (w : Nat → Int) (f : Int) (p : Nat → Bool) : ∀ i, pre (fun i => w i * f) p i = pre w p i * f
  | 0 => by simp [pre]
  | i + 1 => by
    simp only [pre]
    rw [pre_mul w f p i]
    cases p i <;> simp [Int.add_mul]
theorem mul_pos_iff {x f : Int} (f0 : 0 < f) : 0 < x * f ↔ 0 < x := ⟨fun h => Int.pos_of_mul_pos_left h f0, fun h => Int.mul_pos h f0⟩
theorem Dealt.mul {lv : Option (Int × Int)} {fs : List Int} {f : Int} (f0 : 0 < f) (d : Dealt n w cap total lv fs) : Dealt n (fun i => w i * f) cap total (mulLv lv f) fs := by
  have ew : wtd n (fun i => w i * f) = wtd n w := List.filter_congr fun i _ => decide_eq_decide.mpr (mul_pos_iff f0)
  refine ⟨d.len, fun i hi h => d.zero i hi ?_, fun e => ?_, fun t' b' e => ?_⟩
  · have := mt (mul_pos_iff (x := w i) f0).mpr (by omega); omega
  · have : lv = none := by cases lv with
      | none => rfl
      | some tb => cases e
    obtain ⟨h1, h2⟩ := d.non this
    rw [ew]
    exact ⟨fun i hi hw => h1 i hi ((mul_pos_iff f0).mp hw), h2⟩
  · obtain ⟨t, b, rfl, e1, e2⟩ : ∃ t b, lv = some (t, b) ∧ t / (Int.gcd t f : Int) = t' ∧ b * (f / (Int.gcd t f : Int)) = b' := by
      cases lv with
      | none => cases e
      | some tb => cases e; exact ⟨_, _, rfl, rfl, rfl⟩
    obtain ⟨a1, a2, a3, a4, a5, a6⟩ := d.lev t b rfl
    have m := mul_of a1 a2 f0 a3
    rw [e1, e2] at m
    have m' := m
    obtain ⟨F, F0, eb, h⟩ := m'.ex
    have hh : ∀ i, heldB t' b' (fun i => w i * f) cap i = heldB t b w cap i := fun i => by
      unfold heldB
      cases cap i with
      | none => rfl
      | some c =>
        show decide _ = decide _
        rw [h, eb, ← Int.mul_assoc]
        exact decide_eq_decide.mpr ⟨fun h => Int.le_of_mul_le_mul_right h F0, fun h => Int.mul_le_mul_of_nonneg_right h (Int.le_of_lt F0)⟩
    have hr : restB t' b' (fun i => w i * f) cap = restB t b w cap := by
      funext i
      unfold restB
      rw [hh]
      exact congrArg (fun z => z && !heldB t b w cap i) (decide_eq_decide.mpr (mul_pos_iff f0))
    refine ⟨m.t0, m.b0, m.g, ?_, ?_, fun i hi hw => ?_⟩
    · rw [ew]
      exact fun z => a4 ⟨fun i hi hw => z.1 i hi ((mul_pos_iff f0).mpr hw), z.2⟩
    · rw [ew, eb, ← Int.mul_assoc, ← a5, ← S_mul_r]
      exact S_congr fun i _ => by rw [h, less_mul (Int.le_of_lt F0)]
    · rw [a6 i hi ((mul_pos_iff f0).mp hw), hh, hr, pre_mul, part_mul m]
end
section
variable {n : Nat} {w fl : Nat → Int} {total : Int} {o : List Nat}
/-! #### the same of floors -/
structure IsLevF (n : Nat) (w fl : Nat → Int) (total : Int) (lv : Option (Int × Int)) : Prop where
  non : lv = none → (S w (List.range n) = 0 ∨ total ≤ S fl (List.range n))
  lev : ∀ t b, lv = some (t, b) → 0 ≤ t ∧ 0 < b ∧ Int.gcd t b = 1 ∧ ¬ (S w (List.range n) = 0 ∨ total ≤ S fl (List.range n)) ∧ S (fun i => max (fl i * b) (t * w i)) (List.range n) = total * b
theorem Lev.isLevF {lv : Option (Int × Int)} {fs : List Int} (d : Lev n w fl total lv fs) : IsLevF n w fl total lv :=
  ⟨fun e => (d.non e).2, fun t b e => by
    obtain ⟨a1, a2, a3, a4, a5, _⟩ := d.lev t b e
    exact ⟨a1, a2, a3, a4, a5⟩⟩
theorem IsLevF.uniq (hw : ∀ i, i < n → 0 ≤ w i) (hfl : ∀ i, i < n → 0 ≤ fl i) {lv lv' : Option (Int × Int)} (d : IsLevF n w fl total lv) (d' : IsLevF n w fl total lv') : lv = lv' := by
  cases e : lv with
  | none =>
    cases e' : lv' with
    | none => rfl
    | some tb' =>
      obtain ⟨_, _, _, hno, _⟩ := d'.lev tb'.1 tb'.2 e'
      exact absurd (d.non e) hno
  | some tb =>
    obtain ⟨t, b⟩ := tb
    obtain ⟨t0, b0, hg, hno, hs⟩ := d.lev t b e
    cases e' : lv' with
    | none => exact absurd (d'.non e') hno
    | some tb' =>
      obtain ⟨t', b'⟩ := tb'
      obtain ⟨t0', b0', hg', hno', hs'⟩ := d'.lev t' b' e'
      have h : t * b' = t' * b := by
        rcases Int.lt_trichotomy (t * b') (t' * b) with h | h | h
        · have := levf_lt hw hfl b0 b0' hs hs' h
          exact absurd (.inr (by omega)) hno
        · exact h
        · have := levf_lt hw hfl b0' b0 hs' hs h
          exact absurd (.inr (by omega)) hno
      obtain ⟨rfl, rfl⟩ := lowest_uniq t0 t0' b0 b0' hg hg' h
      rfl
theorem IsLevF.order {lv : Option (Int × Int)} (ho : o.Perm (List.range n)) (d : IsLevF n (fun j => w (oAt o j)) (fun j => fl (oAt o j)) total lv) : IsLevF n w fl total lv := by
  refine ⟨fun e => ?_, fun t b e => ?_⟩
  · have h := d.non e
    rw [S_order (f := w) ho, S_order (f := fl) ho] at h
    exact h
  · obtain ⟨a1, a2, a3, a4, a5⟩ := d.lev t b e
    rw [S_order (f := w) ho, S_order (f := fl) ho] at a4
    rw [S_order (f := fun i => max (fl i * b) (t * w i)) ho] at a5
    exact ⟨a1, a2, a3, a4, a5⟩
theorem Lev.order {lv lv' : Option (Int × Int)} {fs fs' : List Int} (hw : ∀ i, i < n → 0 ≤ w i) (hfl : ∀ i, i < n → 0 ≤ fl i) (ho : o.Perm (List.range n)) (d : Lev n w fl total lv fs) (d' : Lev n (fun j => w (oAt o j)) (fun j => fl (oAt o j)) total lv' fs') :
    lv' = lv ∧ ∀ j, j < n → ∃ x y, fs'[j]? = some x ∧ fs[oAt o j]? = some y ∧ -1 ≤ x - y ∧ x - y ≤ 1 ∧ (x - y ≠ 0 → heldK true lv (some (fl (oAt o j))) (w (oAt o j)) = false) := by
  have hlv : lv' = lv := IsLevF.uniq hw hfl (IsLevF.order ho d'.isLevF) d.isLevF
  subst hlv
  refine ⟨rfl, fun j hj => ?_⟩
  have hi := oAt_lt ho hj
  cases e : lv' with
  | none =>
    have h1 := (d.non e).1 _ hi
    have h2 := (d'.non e).1 j hj
    exact ⟨_, _, h2, h1, by omega, by omega, fun h => absurd (Int.sub_self _) h⟩
  | some tb =>
    obtain ⟨t, b⟩ := tb
    obtain ⟨_, b0, _, _, _, _, h⟩ := d.lev t b e
    obtain ⟨_, _, _, _, _, _, h'⟩ := d'.lev t b e
    have hb : restL t b (fun j => w (oAt o j)) (fun j => fl (oAt o j)) j = restL t b w fl (oAt o j) := rfl
    have h1 := h _ hi
    have h2 := h' j hj
    rw [hb] at h2
    refine ⟨_, _, h2, h1, ?_⟩
    cases hh : restL t b w fl (oAt o j) with
    | false => exact ⟨by simp, by simp, fun h => absurd (by simp) h⟩
    | true =>
      have p := part_near (t := t) (b := b) (x := pre (fun j => w (oAt o j)) (restL t b (fun j => w (oAt o j)) fun j => fl (oAt o j)) j) (y := pre w (restL t b w fl) (oAt o j)) (v := w (oAt o j)) b0
      refine ⟨by simpa using p.1, by simpa using p.2, fun _ => ?_⟩
      unfold restL highB at hh
      obtain ⟨h3, h4⟩ := Bool.and_eq_true_iff.mp hh
      have h3 := of_decide_eq_true h3
      unfold heldK
      simp only []
      rw [if_neg (by omega)]
      simpa using h4
theorem restL_ins (t b c : Int) (k : Nat) : restL t b (ins k 0 w) (ins k c fl) = ins k false (restL t b w fl) := by
  funext i
  rcases Nat.lt_trichotomy i k with h | h | h
  · rw [ins_lt h]; unfold restL highB; rw [ins_lt h, ins_lt h]
  · subst h; rw [ins_eq]; unfold restL; rw [ins_eq]; simp
  · rw [ins_gt h]; unfold restL highB; rw [ins_gt h, ins_gt h]
theorem Lev.strange {lv : Option (Int × Int)} {fs : List Int} {k : Nat} {c : Int} (c0 : 0 ≤ c) (hk : k ≤ n) (d : Lev n w fl total lv fs) : Lev (n + 1) (ins k 0 w) (ins k c fl) (total + c) lv (fs.take k ++ [c] ++ fs.drop k) := by
  have hl := d.len
  have at' := fun i => insL_at (fs := fs) (v := c) (k := k) (by omega) i
  have e1 : S (My.ins k 0 w) (List.range (n + 1)) = S w (List.range n) := by rw [S_ins _ _ hk]; omega
  have e2 : S (My.ins k c fl) (List.range (n + 1)) = S fl (List.range n) + c := S_ins _ _ hk
  have ex : ¬ (S (My.ins k 0 w) (List.range (n + 1)) = 0 ∨ total + c ≤ S (My.ins k c fl) (List.range (n + 1))) ↔ ¬ (S w (List.range n) = 0 ∨ total ≤ S fl (List.range n)) := by rw [e1, e2]; omega
  refine ⟨?_, fun e => ⟨?_, ?_⟩, fun t b e => ?_⟩
  · simp; omega
  · refine ins_cases hk (fun i hi => ?_) ?_ (fun i h1 hi => ?_)
    · rw [at', ins_lt hi, ins_lt hi]; exact (d.non e).1 i (by omega)
    · rw [at', ins_eq, ins_eq]
    · rw [at', ins_gt (by omega), ins_gt (by omega), Nat.add_sub_cancel]; exact (d.non e).1 i hi
  · have := (d.non e).2
    rw [e1, e2]; omega
  · obtain ⟨a1, a2, a3, a4, a5, a6, a7⟩ := d.lev t b e
    refine ⟨a1, a2, a3, ex.mpr a4, ?_, ?_, ?_⟩
    · have : S (fun i => max (My.ins k c fl i * b) (t * My.ins k 0 w i)) (List.range (n + 1)) = S (My.ins k (c * b) fun i => max (fl i * b) (t * w i)) (List.range (n + 1)) := S_congr fun i hi => by
        rcases Nat.lt_trichotomy i k with h | h | h
        · rw [ins_lt h, ins_lt h, ins_lt h]
        · subst h; rw [ins_eq, ins_eq, ins_eq, Int.mul_zero]
          have := Int.mul_nonneg c0 (Int.le_of_lt a2); omega
        · rw [ins_gt h, ins_gt h, ins_gt h]
      rw [this, S_ins _ _ hk, a5, Int.add_mul]
    · have h0 : (fs.take k ++ [c] ++ fs.drop k).sum = fs.sum + c := by
        have := List.take_append_drop k fs
        have h2 : fs.sum = (fs.take k).sum + (fs.drop k).sum := by rw [← List.sum_append, this]
        simp only [List.sum_append, List.sum_cons, List.sum_nil]; omega
      rw [h0, a6]
    · have hp : ∀ i, pre (My.ins k 0 w) (restL t b (My.ins k 0 w) (My.ins k c fl)) i = if i ≤ k then pre w (restL t b w fl) i else pre w (restL t b w fl) (i - 1) := fun i => by rw [restL_ins, pre_ins]
      refine ins_cases hk (fun i hi => ?_) ?_ (fun i h1 hi => ?_)
      · rw [at', ins_lt hi, a7 i (by omega), hp, restL_ins, if_pos (show i ≤ k by omega), ins_lt hi, ins_lt hi, ins_lt hi]
      · rw [at', restL_ins, ins_eq, ins_eq, ins_eq, if_neg (by simp), ins_eq]
      · rw [at', ins_gt (by omega), Nat.add_sub_cancel, a7 i hi, hp, restL_ins, if_neg (show ¬ i + 1 ≤ k by omega), ins_gt (by omega), ins_gt (by omega), ins_gt (by omega), Nat.add_sub_cancel]
theorem Lev.mul {lv : Option (Int × Int)} {fs : List Int} {f : Int} (f0 : 0 < f) (d : Lev n w fl total lv fs) : Lev n (fun i => w i * f) fl total (mulLv lv f) fs := by
  have e0 : S (fun i => w i * f) (List.range n) = 0 ↔ S w (List.range n) = 0 := by
    rw [S_mul_r]
    exact ⟨fun h => by rcases Int.mul_eq_zero.mp h with h | h; exact h; omega, fun h => by rw [h, Int.zero_mul]⟩
  refine ⟨d.len, fun e => ?_, fun t' b' e => ?_⟩
  · have : lv = none := by cases lv with
      | none => rfl
      | some tb => cases e
    obtain ⟨h1, h2⟩ := d.non this
    exact ⟨h1, by rw [e0]; exact h2⟩
  · obtain ⟨t, b, rfl, e1, e2⟩ : ∃ t b, lv = some (t, b) ∧ t / (Int.gcd t f : Int) = t' ∧ b * (f / (Int.gcd t f : Int)) = b' := by
      cases lv with
      | none => cases e
      | some tb => cases e; exact ⟨_, _, rfl, rfl, rfl⟩
    obtain ⟨a1, a2, a3, a4, a5, a6, a7⟩ := d.lev t b rfl
    have m := mul_of a1 a2 f0 a3
    rw [e1, e2] at m
    have m' := m
    obtain ⟨F, F0, eb, h⟩ := m'.ex
    have hh : ∀ i, highB t' b' (fun i => w i * f) fl i = highB t b w fl i := fun i => by
      unfold highB
      show decide _ = decide _
      rw [h, eb, ← Int.mul_assoc]
      exact decide_eq_decide.mpr ⟨fun h => Int.le_of_mul_le_mul_right h F0, fun h => Int.mul_le_mul_of_nonneg_right h (Int.le_of_lt F0)⟩
    have hr : restL t' b' (fun i => w i * f) fl = restL t b w fl := by
      funext i
      unfold restL
      rw [hh]
      exact congrArg (fun z => z && !highB t b w fl i) (decide_eq_decide.mpr (mul_pos_iff f0))
    refine ⟨m.t0, m.b0, m.g, by rw [e0]; exact a4, ?_, a6, fun i hi => ?_⟩
    · rw [eb, ← Int.mul_assoc, ← a5, ← S_mul_r]
      refine S_congr fun i _ => ?_
      rw [h, ← Int.mul_assoc]
      by_cases hle : fl i * b ≤ t * w i
      · rw [Int.max_eq_right hle, Int.max_eq_right (Int.mul_le_mul_of_nonneg_right hle (Int.le_of_lt F0))]
      · have hle : t * w i ≤ fl i * b := by omega
        rw [Int.max_eq_left hle, Int.max_eq_left (Int.mul_le_mul_of_nonneg_right hle (Int.le_of_lt F0))]
    · rw [a7 i hi, hr, pre_mul, part_mul m]
end
theorem wAt_order {ws : List Int} {o : List Nat} (h : o.length = ws.length) : wAt (o.map (wAt ws)) = fun j => wAt ws (oAt o j) := by
  funext j
  show (o.map (wAt ws)).getD j 0 = wAt ws (o.getD j o.length)
  rw [List.getD_eq_getElem?_getD, List.getElem?_map, List.getD_eq_getElem?_getD]
  cases e : o[j]? with
  | some i => rfl
  | none => show 0 = ws.getD o.length 0
            rw [h, List.getD_eq_getElem?_getD, List.getElem?_eq_none (Nat.le_refl _)]; rfl
theorem cAt_order {cs : List (Option Int)} {o : List Nat} (h : o.length = cs.length) : cAt (o.map (cAt cs)) = fun j => cAt cs (oAt o j) := by
  funext j
  show (o.map (cAt cs)).getD j none = cAt cs (o.getD j o.length)
  rw [List.getD_eq_getElem?_getD, List.getElem?_map, List.getD_eq_getElem?_getD]
  cases e : o[j]? with
  | some i => rfl
  | none => show none = cs.getD o.length none
            rw [h, List.getD_eq_getElem?_getD, List.getElem?_eq_none (Nat.le_refl _)]; rfl
/-- turned about from a place on, the last one first -/
def turned (n j : Nat) : List Nat := ((List.range n).drop j ++ (List.range n).take j).reverse
theorem turned_perm (n j : Nat) : (turned n j).Perm (List.range n) :=
  (List.reverse_perm _).trans (List.perm_append_comm.trans (by rw [List.take_append_drop]))
theorem turned_len (n j : Nat) : (turned n j).length = n := by rw [(turned_perm n j).length_eq, List.length_range]
end My

/-! ### a deal of either kind -/
namespace My
open PySem L2
def kI : Bool → Int
  | false => 0
  | true => 1
def Told (k : Bool) (n : Nat) (w : Nat → Int) (cap : Nat → Option Int) (total : Int) (lv : Option (Int × Int)) (fs : List Int) : Prop := match k with
  | false => Dealt n w cap total lv fs
  | true => Lev n w (capN cap) total lv fs
structure Ask (k : Bool) (total : Int) (cs : List (Option Int)) (ws : List Int) : Prop where
  len : cs.length = ws.length
  n : ws.length ≤ 60
  t0 : 0 ≤ total
  t1 : total < 2 ^ 64
  c : ∀ z, some z ∈ cs → 0 ≤ z
  s : k = true → ∀ c ∈ cs, c ≠ none
  w : ∀ z ∈ ws, 0 ≤ z ∧ z < 2 ^ 48
theorem Told.len {k : Bool} {n : Nat} {w : Nat → Int} {cap : Nat → Option Int} {total : Int} {lv : Option (Int × Int)} {fs : List Int} (d : Told k n w cap total lv fs) : fs.length = n := by
  cases k with
  | false => exact Dealt.len d
  | true => exact Lev.len d
theorem Told.lv {k : Bool} {n : Nat} {w : Nat → Int} {cap : Nat → Option Int} {total t b : Int} {fs : List Int} (d : Told k n w cap total (some (t, b)) fs) : 0 ≤ t ∧ 0 < b := by
  cases k with
  | false => obtain ⟨a1, a2, _⟩ := Dealt.lev d t b rfl; exact ⟨a1, a2⟩
  | true => obtain ⟨a1, a2, _⟩ := Lev.lev d t b rfl; exact ⟨a1, a2⟩
theorem opts_map {cs : List (Option Int)} (h : ∀ c ∈ cs, c ≠ none) : cs.map optI = (cs.map fun c => c.getD 0).map V.int := by
  rw [List.map_map]
  refine List.map_congr_left fun c hc => ?_
  cases c with
  | none => exact absurd rfl (h _ hc)
  | some z => rfl
theorem wAt_getD (cs : List (Option Int)) : wAt (cs.map fun c => c.getD 0) = capN (cAt cs) := by
  funext i
  unfold wAt capN cAt
  rw [List.getD_eq_getElem?_getD, List.getElem?_map, List.getD_eq_getElem?_getD]
  cases cs[i]? with
  | none => rfl
  | some z => rfl
theorem sum_bounds {hi : Int} : ∀ ks : List Int, (∀ k ∈ ks, 0 ≤ k ∧ k < hi) → 0 ≤ ks.sum ∧ ks.sum ≤ hi * ks.length
  | [], _ => ⟨by simp, by simp⟩
  | k :: ks, h => by
    have h1 := h k (List.mem_cons_self ..)
    have h2 := sum_bounds ks fun x hx => h x (List.mem_cons_of_mem _ hx)
    rw [List.sum_cons, List.length_cons]
    have e : hi * ((ks.length + 1 : Nat) : Int) = hi * ks.length + hi := by rw [Int.natCast_add, Int.mul_add]; simp
    omega
section
variable {kd : Bool} {n : Nat} {w : Nat → Int} {cap : Nat → Option Int} {total : Int} {lv lv' : Option (Int × Int)} {fs fs' : List Int}
theorem capN_nonneg (hc : ∀ i z, cap i = some z → 0 ≤ z) (i : Nat) : 0 ≤ capN cap i := by
  unfold capN
  cases e : cap i with
  | none => exact Int.le_refl 0
  | some z => exact hc i z e
theorem Told.uniq (hw : ∀ i, i < n → 0 ≤ w i) (hc : ∀ i z, cap i = some z → 0 ≤ z) (d : Told kd n w cap total lv fs) (d' : Told kd n w cap total lv' fs') : lv = lv' ∧ fs = fs' := by
  cases kd with
  | false => exact Dealt.uniq d d'
  | true => exact Lev.uniq hw (fun i _ => capN_nonneg hc i) d d'
theorem capN_ins (k : Nat) (c : Int) : capN (ins k (some c) cap) = ins k c (capN cap) := by
  funext i
  unfold capN ins
  split
  · rfl
  · split <;> rfl
theorem Told.strange {k : Nat} {c : Int} (hk : k ≤ n) (c0 : 0 ≤ c) (d : Told kd n w cap total lv fs) : Told kd (n + 1) (ins k 0 w) (ins k (some c) cap) (total + c * kI kd) lv (fs.take k ++ [c * kI kd] ++ fs.drop k) := by
  cases kd with
  | false =>
    have e : c * kI false = 0 := Int.mul_zero c
    rw [e, Int.add_zero]
    exact Dealt.strange c hk d
  | true =>
    have e : c * kI true = c := Int.mul_one c
    rw [e]
    show Lev _ _ (capN _) _ _ _
    rw [capN_ins]
    exact Lev.strange c0 hk d
theorem Told.mul {f : Int} (f0 : 0 < f) (d : Told kd n w cap total lv fs) : Told kd n (fun i => w i * f) cap total (mulLv lv f) fs := by
  cases kd with
  | false => exact Dealt.mul f0 d
  | true => exact Lev.mul f0 d
theorem Told.order {o : List Nat} (hs : kd = true → ∀ i, i < n → cap i ≠ none) (hw : ∀ i, i < n → 0 ≤ w i) (hc : ∀ i z, cap i = some z → 0 ≤ z) (ho : o.Perm (List.range n)) (d : Told kd n w cap total lv fs) (d' : Told kd n (fun j => w (oAt o j)) (fun j => cap (oAt o j)) total lv' fs') :
    lv' = lv ∧ ∀ j, j < n → ∃ x y, fs'[j]? = some x ∧ fs[oAt o j]? = some y ∧ -1 ≤ x - y ∧ x - y ≤ 1 ∧ (x - y ≠ 0 → heldK kd lv (cap (oAt o j)) (w (oAt o j)) = false) := by
  cases kd with
  | false => exact Dealt.order hw ho d d'
  | true =>
    obtain ⟨h1, h2⟩ := Lev.order hw (fun i _ => capN_nonneg hc i) ho d d'
    refine ⟨h1, fun j hj => ?_⟩
    obtain ⟨x, y, a1, a2, a3, a4, a5⟩ := h2 j hj
    refine ⟨x, y, a1, a2, a3, a4, fun h => ?_⟩
    have h5 := a5 h
    have e : some (capN cap (oAt o j)) = cap (oAt o j) := by
      unfold capN
      cases e : cap (oAt o j) with
      | none => exact absurd e (hs rfl _ (oAt_lt ho hj))
      | some z => rfl
    rw [e] at h5
    exact h5
end
theorem wAt_ins {ws : List Int} {k : Nat} {c : Int} (hk : k ≤ ws.length) : wAt (ws.take k ++ [c] ++ ws.drop k) = ins k c (wAt ws) := by
  funext i
  unfold wAt
  rw [List.getD_eq_getElem?_getD, insL_at hk]
  unfold ins
  split
  · exact (List.getD_eq_getElem?_getD ..).symm
  · split
    · rfl
    · exact (List.getD_eq_getElem?_getD ..).symm
theorem cAt_ins {cs : List (Option Int)} {k : Nat} {c : Option Int} (hk : k ≤ cs.length) : cAt (cs.take k ++ [c] ++ cs.drop k) = ins k c (cAt cs) := by
  funext i
  unfold cAt
  rw [List.getD_eq_getElem?_getD, insL_at hk]
  unfold ins
  split
  · exact (List.getD_eq_getElem?_getD ..).symm
  · split
    · rfl
    · exact (List.getD_eq_getElem?_getD ..).symm
theorem ins_len {α : Type} {ws : List α} {k : Nat} {c : α} (hk : k ≤ ws.length) : (ws.take k ++ [c] ++ ws.drop k).length = ws.length + 1 := by simp; omega
theorem mem_ins {α : Type} {ws : List α} {k : Nat} {c z : α} (h : z ∈ ws.take k ++ [c] ++ ws.drop k) : z = c ∨ z ∈ ws := by
  rcases List.mem_append.mp h with h | h
  · rcases List.mem_append.mp h with h | h
    · exact .inr (List.mem_of_mem_take h)
    · exact .inl (List.mem_singleton.mp h)
  · exact .inr (List.mem_of_mem_drop h)
theorem Ask.strange {kd : Bool} {total : Int} {cs : List (Option Int)} {ws : List Int} {k : Nat} {c : Int} (a : Ask kd total cs ws) (hn : ws.length ≤ 50) (hk : k ≤ ws.length) (c0 : 0 ≤ c) (t1 : total + c < 2 ^ 64) : Ask kd (total + c * kI kd) (cs.take k ++ [some c] ++ cs.drop k) (ws.take k ++ [0] ++ ws.drop k) := by
  have ln := a.len
  have t0 := a.t0
  refine ⟨by rw [ins_len hk, ins_len (by omega), ln], by rw [ins_len hk]; omega, ?_, ?_, fun z hz => ?_, fun e x hx => ?_, fun z hz => ?_⟩
  · cases kd
    · show 0 ≤ total + c * 0; omega
    · show 0 ≤ total + c * 1; omega
  · cases kd
    · show total + c * 0 < _; omega
    · show total + c * 1 < _; omega
  · rcases mem_ins hz with h | h
    · cases h; exact c0
    · exact a.c z h
  · rcases mem_ins hx with h | h
    · rw [h]; simp
    · exact a.s e x h
  · rcases mem_ins hz with h | h
    · rw [h]; decide
    · exact a.w z h
theorem Ask.wAt {kd : Bool} {total : Int} {cs : List (Option Int)} {ws : List Int} (a : Ask kd total cs ws) : ∀ i, i < ws.length → 0 ≤ wAt ws i := fun i hi => (a.w _ (wAt_mem hi)).1
theorem Ask.cAt {kd : Bool} {total : Int} {cs : List (Option Int)} {ws : List Int} (a : Ask kd total cs ws) : ∀ i z, cAt cs i = some z → 0 ≤ z := fun i z h => a.c z (cAt_mem h)
end My

/-! ### slices by plain numbers -/
namespace My
open PySem L2
theorem cutV_take (xs : List V) (j : Nat) : cutV xs none (some (j : Int)) = xs.take j := by
  unfold cutV
  rw [HT.sIx_none, HT.sIx_nat, List.drop_zero, Nat.sub_zero]
  by_cases h : j ≤ xs.length
  · rw [Nat.min_eq_left h]
  · rw [Nat.min_eq_right (by omega), List.take_of_length_le (Nat.le_refl _), List.take_of_length_le (by omega)]
theorem cutV_drop (xs : List V) (j : Nat) : cutV xs (some (j : Int)) none = xs.drop j := by
  unfold cutV
  rw [HT.sIx_none, HT.sIx_nat]
  by_cases h : j ≤ xs.length
  · rw [Nat.min_eq_left h, List.take_of_length_le (by rw [List.length_drop]; omega)]
  · rw [Nat.min_eq_right (by omega), List.drop_of_length_le (Nat.le_refl _), List.drop_of_length_le (by omega), List.take_nil]
theorem cutV_mid (xs : List V) (i j : Nat) (h : i ≤ j) : cutV xs (some (i : Int)) (some (j : Int)) = (xs.take j).drop i := by
  unfold cutV
  rw [HT.sIx_nat, HT.sIx_nat]
  by_cases h1 : i ≤ xs.length
  · by_cases h2 : j ≤ xs.length
    · rw [Nat.min_eq_left h1, Nat.min_eq_left h2, List.drop_take]
    · rw [Nat.min_eq_left h1, Nat.min_eq_right (by omega), List.take_of_length_le (by rw [List.length_drop]; omega), List.take_of_length_le (by omega)]
  · rw [Nat.min_eq_right (show xs.length ≤ i by omega), List.drop_of_length_le (Nat.le_refl _), List.take_nil, List.drop_of_length_le (by rw [List.length_take]; omega)]
end My

/-! ### pieces, and totals that rise: plain mathematics -/
namespace My
open PySem L2
theorem wAt_of {fs : List Int} {i : Nat} {x : Int} (h : fs[i]? = some x) : wAt fs i = x := by
  unfold wAt
  rw [List.getD_eq_getElem?_getD, h]; rfl
theorem part_lt {t b x v c : Int} (hb : 0 < b) (h : t * v < c * b) : part t b x v ≤ c := by
  have k := part_near (t := t) (b := b) (x := x) (y := 0) (v := v) hb
  have e : part t b 0 v = t * v / b := by unfold part; simp
  have h2 : t * v / b < c := Int.ediv_lt_of_lt_mul hb h
  omega
section
variable {n : Nat} {w fl : Nat → Int} {cap : Nat → Option Int} {T1 T2 total : Int} {lv lv1 lv2 : Option (Int × Int)} {fs fs1 fs2 : List Int}
theorem restB_iff {t b : Int} {i : Nat} : restB t b w cap i = true ↔ 0 < w i ∧ heldB t b w cap i = false := by
  unfold restB
  rw [Bool.and_eq_true, decide_eq_true_iff, Bool.not_eq_true']
theorem less_rest {t b : Int} {i : Nat} (h : heldB t b w cap i = false) : less (cap i) b (t * w i) = t * w i := by
  unfold heldB at h
  cases e : cap i with
  | none => rfl
  | some c =>
    rw [e] at h
    have := of_decide_eq_false h
    show min (c * b) (t * w i) = _
    omega
theorem less_held {t b : Int} {i : Nat} (h : heldB t b w cap i = true) : less (cap i) b (t * w i) = capN cap i * b := by
  obtain ⟨c, e, h2⟩ := heldB_some h
  unfold capN
  rw [e]
  show min (c * b) (t * w i) = c * b
  omega
/-- by a level all that is dealt comes to the total -/
theorem Dealt.sum {t b : Int} (d : Dealt n w cap total (some (t, b)) fs) : fs.sum = total := by
  obtain ⟨t0, b0, hg, hno, hs, hfs⟩ := d.lev t b rfl
  obtain ⟨g, hgd⟩ : ∃ g : Nat → Int, g = fun i => if 0 < w i then capN cap i else 0 := ⟨_, rfl⟩
  have e1 : fs.sum = t * pre w (restB t b w cap) n / b + S g ((List.range n).filter fun i => !restB t b w cap i) := by
    rw [← S_range, d.len, S_split _ (restB t b w cap), ← parts_sum]
    congr 1
    · refine S_congr fun i hi => ?_
      obtain ⟨h1, h2⟩ := List.mem_filter.mp hi
      obtain ⟨h3, h4⟩ := restB_iff.mp h2
      rw [wAt_of (hfs i (List.mem_range.mp h1) h3), h4]; rfl
    · refine S_congr fun i hi => ?_
      obtain ⟨h1, h2⟩ := List.mem_filter.mp hi
      rw [hgd]
      by_cases hw : 0 < w i
      · have h4 : heldB t b w cap i = true := by
          cases e : heldB t b w cap i with
          | true => rfl
          | false => rw [restB_iff.mpr ⟨hw, e⟩] at h2; cases h2
        rw [wAt_of (hfs i (List.mem_range.mp h1) hw), h4]
        show capN cap i = if 0 < w i then capN cap i else 0
        rw [if_pos hw]
      · rw [wAt_of (d.zero i (List.mem_range.mp h1) (by omega))]
        show 0 = if 0 < w i then capN cap i else 0
        rw [if_neg hw]
  have e2 : t * pre w (restB t b w cap) n + S g ((List.range n).filter fun i => !restB t b w cap i) * b = total * b := by
    rw [← hs, S_wtd, S_split (fun i => if 0 < w i then less (cap i) b (t * w i) else 0) (restB t b w cap), pre_eq, ← S_mul, ← S_mul_r]
    congr 1
    · refine S_congr fun i hi => ?_
      obtain ⟨h1, h2⟩ := List.mem_filter.mp hi
      obtain ⟨h3, h4⟩ := restB_iff.mp h2
      rw [if_pos h3, less_rest h4]
    · refine S_congr fun i hi => ?_
      obtain ⟨h1, h2⟩ := List.mem_filter.mp hi
      rw [hgd]
      by_cases hw : 0 < w i
      · have h4 : heldB t b w cap i = true := by
          cases e : heldB t b w cap i with
          | true => rfl
          | false => rw [restB_iff.mpr ⟨hw, e⟩] at h2; cases h2
        show (if 0 < w i then capN cap i else 0) * b = if 0 < w i then less (cap i) b (t * w i) else 0
        rw [if_pos hw, if_pos hw, less_held h4]
      · show (if 0 < w i then capN cap i else 0) * b = if 0 < w i then less (cap i) b (t * w i) else 0
        rw [if_neg hw, if_neg hw, Int.zero_mul]
  have e3 : t * pre w (restB t b w cap) n = (total - S g ((List.range n).filter fun i => !restB t b w cap i)) * b := by rw [Int.sub_mul]; omega
  rw [e1, e3, Int.mul_ediv_cancel _ (Int.ne_of_gt b0)]; omega
theorem Dealt.le_cap {i : Nat} {c x : Int} (c0 : 0 ≤ c) (d : Dealt n w cap total lv fs) (hi : i < n) (hc : cap i = some c) (hx : fs[i]? = some x) : x ≤ c := by
  by_cases hw : 0 < w i
  · cases e : lv with
    | none =>
      obtain ⟨c', h1, h2⟩ := (d.non e).1 i hi hw
      rw [hc] at h1; cases h1
      rw [hx] at h2; cases h2
      exact Int.le_refl _
    | some tb =>
      obtain ⟨t, b⟩ := tb
      obtain ⟨_, b0, _, _, _, h⟩ := d.lev t b e
      have h := h i hi hw
      rw [hx] at h
      have h := Option.some.inj h
      cases hh : heldB t b w cap i with
      | true => rw [hh] at h; rw [h]; unfold capN; rw [hc]; exact Int.le_refl _
      | false =>
        rw [hh] at h
        rw [h]
        unfold heldB at hh
        rw [hc] at hh
        have := of_decide_eq_false hh
        exact part_lt b0 (by omega)
  · have := d.zero i hi (by omega)
    rw [hx] at this; cases this; exact c0
theorem Lev.ge_floor {i : Nat} {x : Int} (d : Lev n w fl total lv fs) (hi : i < n) (hx : fs[i]? = some x) : fl i ≤ x := by
  cases e : lv with
  | none =>
    have := (d.non e).1 i hi
    rw [hx] at this; cases this; exact Int.le_refl _
  | some tb =>
    obtain ⟨t, b⟩ := tb
    obtain ⟨_, b0, _, _, _, _, h⟩ := d.lev t b e
    have h := h i hi
    rw [hx] at h
    have h := Option.some.inj h
    cases hh : restL t b w fl i with
    | false => rw [hh] at h; rw [h]; exact Int.le_refl _
    | true =>
      rw [hh] at h
      rw [h]
      unfold restL highB at hh
      obtain ⟨h1, h2⟩ := Bool.and_eq_true_iff.mp hh
      have h2 : ¬ t * w i ≤ fl i * b := by simpa using h2
      exact part_floor b0 (by omega)
/-! #### a greater total -/
theorem Dealt.rise0 (h : T1 ≤ T2) (d1 : Dealt n w cap T1 none fs1) (d2 : Dealt n w cap T2 lv2 fs2) : lv2 = none ∧ fs1 = fs2 := by
  have d1' : Dealt n w cap T2 none fs1 := ⟨d1.len, d1.zero, fun e => ⟨(d1.non e).1, Int.le_trans (d1.non e).2 h⟩, fun t b e => by cases e⟩
  obtain ⟨h1, h2⟩ := Dealt.uniq d1' d2
  exact ⟨h1.symm, h2⟩
theorem Dealt.rise1 {t1 b1 t2 b2 : Int} (h : T1 < T2) (d1 : Dealt n w cap T1 (some (t1, b1)) fs1) (d2 : Dealt n w cap T2 (some (t2, b2)) fs2) : t1 * b2 < t2 * b1 := by
  obtain ⟨_, p1, _, _, h1, _⟩ := d1.lev t1 b1 rfl
  obtain ⟨_, p2, _, _, h2, _⟩ := d2.lev t2 b2 rfl
  refine Int.not_le.mp fun hle => ?_
  have key : S (fun i => less (cap i) b2 (t2 * w i)) (wtd n w) * b1 ≤ S (fun i => less (cap i) b1 (t1 * w i)) (wtd n w) * b2 := by
    rw [← S_mul_r, ← S_mul_r]
    refine S_le fun i hi => ?_
    have hw := (wtd_mem.mp hi).2
    rw [less_mul (Int.le_of_lt p1), less_mul (Int.le_of_lt p2), Int.mul_comm b1 b2]
    refine less_mono ?_
    rw [mul_right_swap, mul_right_swap t1]
    exact Int.mul_le_mul_of_nonneg_right hle (Int.le_of_lt hw)
  rw [h1, h2] at key
  have e : T1 * b1 * b2 = T1 * b2 * b1 := mul_right_swap ..
  rw [e] at key
  have h3 := Int.le_of_mul_le_mul_right key p1
  have h4 := Int.le_of_mul_le_mul_right h3 p2
  omega
theorem Dealt.stay {t b c : Int} {i : Nat} (h : T1 < T2) (d1 : Dealt n w cap T1 (some (t, b)) fs1) (d2 : Dealt n w cap T2 lv2 fs2) (hi : i < n) (hw : 0 < w i) (hc : cap i = some c) (hh : c * b ≤ t * w i) : fs2[i]? = some c := by
  cases e : lv2 with
  | none =>
    obtain ⟨c', h1, h2⟩ := (d2.non e).1 i hi hw
    rw [hc] at h1; cases h1; exact h2
  | some tb =>
    obtain ⟨t2, b2⟩ := tb
    subst e
    have r := Dealt.rise1 h d1 d2
    obtain ⟨_, p1, _, _, _, _⟩ := d1.lev t b rfl
    obtain ⟨_, p2, _, _, _, h2⟩ := d2.lev t2 b2 rfl
    have := keep_cap p1 (Int.le_of_lt hw) (Int.le_of_lt p2) hh (Int.le_of_lt r)
    rw [h2 i hi hw, heldB_iff hc, decide_eq_true this]
    unfold capN
    rw [hc]; rfl
theorem Lev.rise0 (hw : ∀ i, i < n → 0 ≤ w i) (hfl : ∀ i, i < n → 0 ≤ fl i) (h : T1 ≤ T2) (d1 : Lev n w fl T1 lv1 fs1) (d2 : Lev n w fl T2 none fs2) : lv1 = none ∧ fs1 = fs2 := by
  have d2' : Lev n w fl T1 none fs2 := ⟨d2.len, fun e => ⟨(d2.non e).1, (d2.non e).2.imp id fun z => Int.le_trans h z⟩, fun t b e => by cases e⟩
  exact Lev.uniq hw hfl d1 d2'
theorem Lev.rise1 {t1 b1 t2 b2 : Int} (hw : ∀ i, i < n → 0 ≤ w i) (h : T1 < T2) (d1 : Lev n w fl T1 (some (t1, b1)) fs1) (d2 : Lev n w fl T2 (some (t2, b2)) fs2) : t1 * b2 < t2 * b1 := by
  obtain ⟨_, p1, _, _, h1, _⟩ := d1.lev t1 b1 rfl
  obtain ⟨_, p2, _, _, h2, _⟩ := d2.lev t2 b2 rfl
  refine Int.not_le.mp fun hle => ?_
  have mm : ∀ x y k : Int, 0 ≤ k → max x y * k = max (x * k) (y * k) := fun x y k hk => by
    by_cases h : x ≤ y
    · rw [Int.max_eq_right h, Int.max_eq_right (Int.mul_le_mul_of_nonneg_right h hk)]
    · have h : y ≤ x := by omega
      rw [Int.max_eq_left h, Int.max_eq_left (Int.mul_le_mul_of_nonneg_right h hk)]
  have key : S (fun i => max (fl i * b2) (t2 * w i)) (List.range n) * b1 ≤ S (fun i => max (fl i * b1) (t1 * w i)) (List.range n) * b2 := by
    rw [← S_mul_r, ← S_mul_r]
    refine S_le fun i hi => ?_
    have hwi := hw i (List.mem_range.mp hi)
    show max (fl i * b2) (t2 * w i) * b1 ≤ max (fl i * b1) (t1 * w i) * b2
    rw [mm _ _ _ (Int.le_of_lt p1), mm _ _ _ (Int.le_of_lt p2), mul_right_swap (fl i), mul_right_swap t2, mul_right_swap t1]
    have := Int.mul_le_mul_of_nonneg_right hle hwi
    omega
  rw [h1, h2] at key
  have e : T1 * b1 * b2 = T1 * b2 * b1 := mul_right_swap ..
  rw [e] at key
  have h3 := Int.le_of_mul_le_mul_right key p1
  have h4 := Int.le_of_mul_le_mul_right h3 p2
  omega
theorem Lev.stay {t b : Int} {i : Nat} (hw : ∀ i, i < n → 0 ≤ w i) (h : T1 < T2) (d1 : Lev n w fl T1 lv1 fs1) (d2 : Lev n w fl T2 (some (t, b)) fs2) (hi : i < n) (hh : t * w i ≤ fl i * b) : fs1[i]? = some (fl i) := by
  cases e : lv1 with
  | none => exact (d1.non e).1 i hi
  | some tb =>
    obtain ⟨t1, b1⟩ := tb
    subst e
    have r := Lev.rise1 hw h d1 d2
    obtain ⟨_, p1, _, _, _, _, h1⟩ := d1.lev t1 b1 rfl
    obtain ⟨_, p2, _⟩ := d2.lev t b rfl
    have := keep_floor p2 (hw i hi) (Int.le_of_lt p1) hh (Int.le_of_lt r)
    rw [h1 i hi]
    have er : restL t1 b1 w fl i = false := by
      unfold restL highB
      rw [decide_eq_true this]; simp
    rw [er]; rfl
/-! #### of either kind -/
theorem Told.sum {kd : Bool} {t b : Int} (d : Told kd n w cap total (some (t, b)) fs) : fs.sum = total := by
  cases kd with
  | false => exact Dealt.sum d
  | true => exact (Lev.lev d t b rfl).2.2.2.2.2.1
/-- the first one of two, by the kind -/
def fst2 {α : Type} (kd : Bool) (a b : α) : α := match kd with
  | false => a
  | true => b
theorem Told.none2 {kd : Bool} (hw : ∀ i, i < n → 0 ≤ w i) (hc : ∀ i z, cap i = some z → 0 ≤ z) (h : T1 < T2) (d1 : Told kd n w cap T1 lv1 fs1) (d2 : Told kd n w cap T2 lv2 fs2) (e : fst2 kd lv1 lv2 = none) : lv1 = none ∧ lv2 = none ∧ fs1 = fs2 := by
  cases kd with
  | false =>
    have e : lv1 = none := e
    subst e
    obtain ⟨a, b⟩ := Dealt.rise0 (Int.le_of_lt h) d1 d2
    exact ⟨rfl, a, b⟩
  | true =>
    have e : lv2 = none := e
    subst e
    obtain ⟨a, b⟩ := Lev.rise0 hw (fun i _ => capN_nonneg hc i) (Int.le_of_lt h) d1 d2
    exact ⟨a, rfl, b⟩
theorem Told.stay {kd : Bool} {t b c : Int} {i : Nat} (hw : ∀ i, i < n → 0 ≤ w i) (h : T1 < T2) (d1 : Told kd n w cap T1 lv1 fs1) (d2 : Told kd n w cap T2 lv2 fs2) (e : fst2 kd lv1 lv2 = some (t, b)) (hi : i < n) (hwi : 0 < w i) (hc : cap i = some c)
    (hh : if kd = false then c * b - t * w i ≤ 0 else 0 ≤ c * b - t * w i) : (fst2 kd fs2 fs1)[i]? = some c := by
  cases kd with
  | false =>
    have e : lv1 = some (t, b) := e
    subst e
    rw [if_pos rfl] at hh
    exact Dealt.stay h d1 d2 hi hwi hc (by omega)
  | true =>
    have e : lv2 = some (t, b) := e
    subst e
    rw [if_neg (by simp)] at hh
    have hc2 : capN cap i = c := by unfold capN; rw [hc]; rfl
    have := Lev.stay hw h d1 d2 hi (by rw [hc2]; omega)
    rw [hc2] at this; exact this
theorem Told.piece {kd : Bool} {i : Nat} {c x : Int} (c0 : 0 ≤ c) (d : Told kd n w cap total lv fs) (hi : i < n) (hc : cap i = some c) (hx : fs[i]? = some x) : if kd = false then x ≤ c else c ≤ x := by
  cases kd with
  | false => rw [if_pos rfl]; exact Dealt.le_cap c0 d hi hc hx
  | true =>
    rw [if_neg (by simp)]
    have := Lev.ge_floor d hi hx
    unfold capN at this
    rw [hc] at this; exact this
end
end My

/-! ### deals of all times the bottom of a level: plain mathematics -/
namespace My
open PySem L2
section
variable {n : Nat} {w : Nat → Int} {cap : Nat → Option Int} {total t b : Int} {fs : List Int}
theorem rest_eq (d : Dealt n w cap total (some (t, b)) fs) : t * pre w (restB t b w cap) n + S (fun i => if 0 < w i then capN cap i else 0) ((List.range n).filter fun i => !restB t b w cap i) * b = total * b := by
  obtain ⟨t0, b0, hg, hno, hs, hfs⟩ := d.lev t b rfl
  rw [← hs, S_wtd, S_split (fun i => if 0 < w i then less (cap i) b (t * w i) else 0) (restB t b w cap), pre_eq, ← S_mul, ← S_mul_r]
  congr 1
  · refine S_congr fun i hi => ?_
    obtain ⟨h1, h2⟩ := List.mem_filter.mp hi
    obtain ⟨h3, h4⟩ := restB_iff.mp h2
    rw [if_pos h3, less_rest h4]
  · refine S_congr fun i hi => ?_
    obtain ⟨h1, h2⟩ := List.mem_filter.mp hi
    by_cases hw : 0 < w i
    · have h4 : heldB t b w cap i = true := by
        cases e : heldB t b w cap i with
        | true => rfl
        | false => rw [restB_iff.mpr ⟨hw, e⟩] at h2; cases h2
      rw [if_pos hw, if_pos hw, less_held h4]
    · rw [if_neg hw, if_neg hw, Int.zero_mul]
theorem Dealt.small (hw : ∀ i, i < n → 0 ≤ w i) (hc : ∀ i c, cap i = some c → 0 ≤ c) (d : Dealt n w cap total (some (t, b)) fs) : b ≤ S w (List.range n) ∧ t ≤ total * b := by
  have e := rest_eq d
  obtain ⟨t0, b0, hg, hno, hs, hfs⟩ := d.lev t b rfl
  have eW := pre_eq w (restB t b w cap) n
  have sp := S_split w (restB t b w cap) (List.range n)
  have sp0 : 0 ≤ S w ((List.range n).filter fun i => !restB t b w cap i) := S_nonneg fun i hi => hw i (List.mem_range.mp (List.mem_filter.mp hi).1)
  have X0 : 0 ≤ S (fun i => if 0 < w i then capN cap i else 0) ((List.range n).filter fun i => !restB t b w cap i) := S_nonneg fun i hi => by
    show 0 ≤ if 0 < w i then capN cap i else 0
    split
    · exact capN_nonneg hc i
    · exact Int.le_refl 0
  have hpos : ∀ i ∈ (List.range n).filter (restB t b w cap), 0 < w i := fun i hi => (restB_iff.mp (List.mem_filter.mp hi).2).1
  have W0 : 0 < S w ((List.range n).filter (restB t b w cap)) := by
    refine S_pos hpos fun hnil => hno ?_
    have hall : ∀ i, i < n → restB t b w cap i = false := fun i hi => by
      have := List.filter_eq_nil_iff.mp hnil i (List.mem_range.mpr hi)
      simpa using this
    have hheld : ∀ i, i < n → 0 < w i → heldB t b w cap i = true := fun i hi h => by
      cases e : heldB t b w cap i with
      | true => rfl
      | false => have := hall i hi; rw [restB_iff.mpr ⟨h, e⟩] at this; cases this
    refine ⟨fun i hi h => ?_, ?_⟩
    · obtain ⟨c, e, _⟩ := heldB_some (hheld i hi h)
      rw [e]; rfl
    · have e1 : pre w (restB t b w cap) n = 0 := by rw [eW, hnil]; rfl
      have e2 : ((List.range n).filter fun i => !restB t b w cap i) = List.range n := List.filter_eq_self.mpr fun i hi => by rw [hall i (List.mem_range.mp hi)]; rfl
      rw [e1, e2, Int.mul_zero, Int.zero_add] at e
      have e3 := Int.eq_of_mul_eq_mul_right (Int.ne_of_gt b0) e
      rw [S_wtd]
      exact Int.le_of_eq e3
  rw [eW] at e
  generalize S w ((List.range n).filter (restB t b w cap)) = W at *
  generalize S (fun i => if 0 < w i then capN cap i else 0) ((List.range n).filter fun i => !restB t b w cap i) = X at *
  have e2 : t * W = (total - X) * b := by rw [Int.sub_mul]; omega
  have hdvd : b ∣ W := dvd_cop hg ⟨total - X, by rw [e2, Int.mul_comm]⟩
  refine ⟨Int.le_trans (Int.le_of_dvd W0 hdvd) (by omega), ?_⟩
  have h1 : t * 1 ≤ t * W := Int.mul_le_mul_of_nonneg_left (by omega) t0
  have h2 : 0 ≤ X * b := Int.mul_nonneg X0 (Int.le_of_lt b0)
  have h3 : (total - X) * b = total * b - X * b := Int.sub_mul ..
  omega
/-- all times the bottom: nothing is rounded -/
theorem Dealt.exact {c : Nat → Int} {cap' : Nat → Option Int} {due : List Int} (hw : ∀ i, i < n → 0 < w i) (h1 : ∀ i, i < n → cap i = some (c i)) (h2 : ∀ i, i < n → cap' i = some (c i * b)) (hl : due.length = n) (hd : ∀ i, i < n → due[i]? = some (min (c i * b) (t * w i)))
    (d : Dealt n w cap total (some (t, b)) fs) : Dealt n w cap' (total * b) (some (t, 1)) due := by
  obtain ⟨t0, b0, hg, hno, hs, hfs⟩ := d.lev t b rfl
  refine ⟨hl, fun i hi h => by have := hw i hi; omega, (fun e => by cases e), fun t' b' e => ?_⟩
  cases e
  have ecap : S (capN cap') (wtd n w) = S (capN cap) (wtd n w) * b := by
    rw [← S_mul_r]
    refine S_congr fun i hi => ?_
    have := (wtd_mem.mp hi).1
    unfold capN
    rw [h1 i this, h2 i this]; rfl
  refine ⟨t0, by decide, Int.gcd_one_right _, fun z => hno ⟨fun i hi _ => by rw [h1 i hi]; rfl, ?_⟩, ?_, fun i hi hwi => ?_⟩
  · have := z.2
    rw [ecap] at this
    exact Int.le_of_mul_le_mul_right this b0
  · rw [Int.mul_one, ← hs]
    refine S_congr fun i hi => ?_
    have := (wtd_mem.mp hi).1
    rw [h1 i this, h2 i this]
    show min (c i * b * 1) _ = min (c i * b) _
    rw [Int.mul_one]
  · rw [hd i hi, heldB_iff (h2 i hi), Int.mul_one]
    unfold part capN
    rw [h2 i hi, Int.ediv_one, Int.ediv_one, Int.mul_add]
    by_cases h : c i * b ≤ t * w i
    · rw [decide_eq_true h, if_pos rfl, Int.min_eq_left h]; rfl
    · rw [decide_eq_false h, if_neg (by simp), Int.min_eq_right (by omega)]
      congr 1; omega
end
theorem cAt_map {bs : List Int} {f : Int → Int} {i : Nat} (h : i < bs.length) : cAt (bs.map fun x => some (f x)) i = some (f (wAt bs i)) := by
  unfold cAt wAt
  rw [List.getD_eq_getElem?_getD, List.getElem?_map, List.getD_eq_getElem?_getD, List.getElem?_eq_getElem h]; rfl
theorem at_map {bs : List Int} {f : Int → Int} {i : Nat} (h : i < bs.length) : ((bs.map f).map V.int)[i]? = some (.int (f (wAt bs i))) := by
  unfold wAt
  rw [List.getElem?_map, List.getElem?_map, List.getD_eq_getElem?_getD, List.getElem?_eq_getElem h]; rfl
theorem sum_map (bs : List Int) (f : Int → Int) : (bs.map f).sum = S (fun i => f (wAt bs i)) (List.range bs.length) := by
  have : (List.range bs.length).map (fun i => f (wAt bs i)) = bs.map f := by
    apply List.ext_getElem?
    intro i
    rw [List.getElem?_map, List.getElem?_map]
    by_cases h : i < bs.length
    · rw [List.getElem?_range h, List.getElem?_eq_getElem h]
      unfold wAt
      show some (f (bs.getD i 0)) = _
      rw [List.getD_eq_getElem?_getD, List.getElem?_eq_getElem h]; rfl
    · rw [List.getElem?_eq_none (by rw [List.length_range]; omega), List.getElem?_eq_none (by omega)]; rfl
  show _ = ((List.range bs.length).map _).sum
  rw [this]
theorem S_add (f g : Nat → Int) : ∀ R : List Nat, S (fun i => f i + g i) R = S f R + S g R
  | [] => rfl
  | i :: R => by rw [S_cons, S_cons, S_cons, S_add f g R]; omega
theorem wtd_all {n : Nat} {w : Nat → Int} (h : ∀ i, i < n → 0 < w i) : wtd n w = List.range n := List.filter_eq_self.mpr fun i hi => decide_eq_true (h i (List.mem_range.mp hi))
/-- the lessers and the greaters together -/
theorem rest_sum {bs ws : List Int} {t b total : Int} (lb : bs.length = ws.length) (hw : ∀ i, i < ws.length → 0 < wAt ws i)
    (hs : S (fun i => less (cAt (bs.map some) i) b (t * wAt ws i)) (wtd ws.length (wAt ws)) = total * b) : (bs.map fun u => u * b).sum + (ws.map fun u => t * u).sum - total * b = S (fun i => max (wAt bs i * b) (t * wAt ws i)) (List.range ws.length) := by
  rw [sum_map, sum_map, lb]
  have e : S (fun i => min (wAt bs i * b) (t * wAt ws i)) (List.range ws.length) = total * b := by
    rw [← hs, wtd_all hw]
    refine S_congr fun i hi => ?_
    have e1 : cAt (bs.map some) i = some (wAt bs i) := cAt_map (f := id) (by have := List.mem_range.mp hi; omega)
    rw [e1]; rfl
  have e2 : S (fun i => max (wAt bs i * b) (t * wAt ws i)) (List.range ws.length) + S (fun i => min (wAt bs i * b) (t * wAt ws i)) (List.range ws.length) = S (fun i => wAt bs i * b) (List.range ws.length) + S (fun i => t * wAt ws i) (List.range ws.length) := by
    rw [← S_add, ← S_add]
    exact S_congr fun i _ => by omega
  omega
section
variable {bs ws : List Int} {t b total : Int}
def mxE (t b : Int) (bs ws : List Int) (i : Nat) : Int := if t * wAt ws i > wAt bs i * b then t * wAt ws i else wAt bs i * b
def mnE (t b : Int) (bs ws : List Int) (i : Nat) : Int := if t * wAt ws i < wAt bs i * b then t * wAt ws i else wAt bs i * b
theorem mxE_eq (i : Nat) : mxE t b bs ws i = max (wAt bs i * b) (t * wAt ws i) := by unfold mxE; split <;> omega
theorem mnE_eq (i : Nat) : mnE t b bs ws i = min (wAt bs i * b) (t * wAt ws i) := by unfold mnE; split <;> omega
theorem lev_exact1 (lb : bs.length = ws.length) (hw : ∀ i, i < ws.length → 0 < wAt ws i) (hc : ∀ i, i < ws.length → 0 ≤ wAt bs i * b) (t0 : 0 ≤ t)
    (rs : (bs.map fun u => u * b).sum + (ws.map fun u => t * u).sum - total * b = S (fun i => max (wAt bs i * b) (t * wAt ws i)) (List.range ws.length)) (hex : ∃ i, i < ws.length ∧ wAt bs i * b < t * wAt ws i) :
    Lev ws.length (wAt ws) (wAt (bs.map fun u => u * b)) ((bs.map fun u => u * b).sum + (ws.map fun u => t * u).sum - total * b) (some (t, 1)) ((List.range ws.length).map (mxE t b bs ws)) := by
  have mxs : ((List.range ws.length).map (mxE t b bs ws)).sum = S (fun i => max (wAt bs i * b) (t * wAt ws i)) (List.range ws.length) := by
    show S (mxE t b bs ws) _ = _
    exact S_congr fun i _ => mxE_eq i
  have ew1 : (fun i => wAt ws i * 1) = wAt ws := funext fun i => Int.mul_one _
  have := known_lev (n := ws.length) (u := wAt ws) (fl := wAt (bs.map fun u => u * b)) (lt := t) (lb := 1) (fs := (List.range ws.length).map (mxE t b bs ws)) (total := (bs.map fun u => u * b).sum + (ws.map fun u => t * u).sum - total * b) (fun i hi => Int.le_of_lt (hw i hi)) (fun i hi => by rw [wAt_mul]; exact hc i hi) t0 (by decide) (Int.gcd_one_right _) (by rw [List.length_map, List.length_range]) (fun i hi => by
    rw [List.getElem?_map, range_get hi, wAt_mul, Int.mul_comm (wAt ws i)]; show some (mxE t b bs ws i) = _; rw [mxE_eq]) (by rw [mxs]; exact rs) (by
    obtain ⟨i, h1, h2⟩ := hex
    exact ⟨i, h1, by rw [wAt_mul, Int.mul_comm (wAt ws i)]; exact h2⟩)
  rw [ew1] at this
  exact this
theorem lev_exact0 (lb : bs.length = ws.length) (rs : (bs.map fun u => u * b).sum + (ws.map fun u => t * u).sum - total * b = S (fun i => max (wAt bs i * b) (t * wAt ws i)) (List.range ws.length)) (hex : ¬ ∃ i, i < ws.length ∧ wAt bs i * b < t * wAt ws i) :
    Lev ws.length (wAt ws) (wAt (bs.map fun u => u * b)) ((bs.map fun u => u * b).sum + (ws.map fun u => t * u).sum - total * b) none (bs.map fun u => u * b) := by
  refine known_flat _ (by rw [List.length_map]; exact lb) (fun i hi => ?_) ?_
  · rw [List.getElem?_map, wAt_mul, List.getElem?_eq_getElem (by omega : i < bs.length)]
    show some (bs[i] * b) = some (wAt bs i * b)
    rw [wAt_of (List.getElem?_eq_getElem (by omega : i < bs.length))]
  · rw [rs, wAt_mul]
    refine S_le fun i hi => ?_
    have : ¬ wAt bs i * b < t * wAt ws i := fun z => hex ⟨i, List.mem_range.mp hi, z⟩
    show max (wAt bs i * b) (t * wAt ws i) ≤ wAt bs i * b
    omega
theorem open_iff : ((((List.range ws.length).filter fun i => decide (wAt bs i * b < t * wAt ws i)).map fun i => t * wAt ws i) = []) ↔ ¬ ∃ i, i < ws.length ∧ wAt bs i * b < t * wAt ws i := by
  rw [List.map_eq_nil_iff, List.filter_eq_nil_iff]
  constructor
  · rintro h ⟨i, h1, h2⟩
    exact h i (List.mem_range.mpr h1) (decide_eq_true h2)
  · intro h i hi z
    exact h ⟨i, List.mem_range.mp hi, of_decide_eq_true z⟩
theorem rest_bound {b1 : b ≤ 1200} (b0 : 0 < b) (n12 : ws.length ≤ 12) (lb : bs.length = ws.length) (t0 : 0 ≤ t) (t1 : t ≤ 1200000000) (hw : ∀ i, i < ws.length → 0 < wAt ws i ∧ wAt ws i < 100) (hb : ∀ i, i < bs.length → 0 ≤ wAt bs i ∧ wAt bs i < 10000) :
    0 ≤ S (fun i => max (wAt bs i * b) (t * wAt ws i)) (List.range ws.length) ∧ S (fun i => max (wAt bs i * b) (t * wAt ws i)) (List.range ws.length) < 2 ^ 60 := by
  have rb : ∀ i ∈ List.range ws.length, 0 ≤ max (wAt bs i * b) (t * wAt ws i) ∧ max (wAt bs i * b) (t * wAt ws i) ≤ 120000000000 := fun i hi => by
    have hi := List.mem_range.mp hi
    have h1 := hw i hi
    have h2 := hb i (by omega)
    have h3 : wAt bs i * b ≤ 10000 * 1200 := Int.mul_le_mul (by omega) b1 (by omega) (by omega)
    have h4 : t * wAt ws i ≤ 1200000000 * 100 := Int.mul_le_mul t1 (by omega) (by omega) (by omega)
    have h5 : 0 ≤ wAt bs i * b := Int.mul_nonneg h2.1 (by omega)
    omega
  have r0 := S_nonneg fun i hi => (rb i hi).1
  have r1 := S_bound fun i hi => (rb i hi).2
  rw [List.length_range] at r1
  omega
end
section
variable {n : Nat} {bs ws fs : List Int} {total : Int}
theorem cap_sum (lb : bs.length = ws.length) (hw : ∀ i, i < ws.length → 0 < wAt ws i) : S (capN (cAt (bs.map some))) (wtd ws.length (wAt ws)) = bs.sum := by
  rw [wtd_all hw, ← S_range, lb]
  refine S_congr fun i hi => ?_
  have e1 : cAt (bs.map some) i = some (wAt bs i) := cAt_map (f := id) (by have := List.mem_range.mp hi; omega)
  unfold capN
  rw [e1]; rfl
theorem dealt_none (lb : bs.length = ws.length) (hw : ∀ i, i < ws.length → 0 < wAt ws i) (d : Dealt ws.length (wAt ws) (cAt (bs.map some)) total none fs) : bs.sum ≤ total ∧ fs = bs := by
  obtain ⟨h1, h2⟩ := d.non rfl
  rw [cap_sum lb hw] at h2
  refine ⟨h2, List.ext_getElem? fun i => ?_⟩
  by_cases hi : i < ws.length
  · obtain ⟨c, e, h⟩ := h1 i hi (hw i hi)
    have e1 : cAt (bs.map some) i = some (wAt bs i) := cAt_map (f := id) (by omega)
    rw [e1] at e
    cases e
    rw [h]
    unfold wAt
    rw [List.getD_eq_getElem?_getD, List.getElem?_eq_getElem (by omega : i < bs.length)]; rfl
  · rw [List.getElem?_eq_none (by rw [d.len]; omega), List.getElem?_eq_none (by omega)]
theorem dealt_some {t b : Int} (lb : bs.length = ws.length) (hw : ∀ i, i < ws.length → 0 < wAt ws i) (d : Dealt ws.length (wAt ws) (cAt (bs.map some)) total (some (t, b)) fs) : ¬ bs.sum ≤ total := fun h => by
  obtain ⟨_, _, _, hno, _⟩ := d.lev t b rfl
  refine hno ⟨fun i hi _ => ?_, by rw [cap_sum lb hw]; exact h⟩
  have e1 : cAt (bs.map some) i = some (wAt bs i) := cAt_map (f := id) (by omega)
  rw [e1]; rfl
theorem lev_flat (lb : bs.length = ws.length) : Lev ws.length (wAt ws) (wAt bs) bs.sum none bs := known_flat _ lb (fun i hi => by
    unfold wAt
    rw [List.getD_eq_getElem?_getD, List.getElem?_eq_getElem (by omega : i < bs.length)]; rfl) (by rw [← S_range, lb]; exact Int.le_refl _)
end
end My

namespace My
open PySem PySem.Spec PyProof.Rows L2
section
variable {P : Program} {w : World} {K : PySem.W.Frag} {mg : Str → Option Value} {base : Heap}
def sp_is_whole : Sp := fun vs H Q _ => ∃ (x : V) (t : String), vs = [x] ∧ Ty7 H x t ∧ Q (.bl (isI x)) H
theorem ok_is_whole (T : Tx K mg) : FnOk P w K mg base CX0 1 T.d_is_whole.f T.d_is_whole.fd ["thing"] (sp_is_whole) := by
  refine T.d_is_whole.F.ok sc_is_whole (fun vs H Q E h => ?_) (fun cdv A outer s H vs Q E hr h => ?_)
  · obtain ⟨x, t, rfl, _⟩ := h
    rfl
  · obtain ⟨x, t, rfl, ht, k⟩ := h
    refine ⟨_, (pss_one (ps_ret (pe_and (pe_callB is_int (by rfl) T.b_isinstance (by decide +kernel) (pa_cons (pv 0) (pa_cons (pe_bltn (v := .ty "int") (by rfl) T.b_int (by decide +kernel) rfl) pa_nil))) (pe_one (pe_not (pe_callB is_bool (by rfl) T.b_isinstance (by decide +kernel) (pa_cons (pv 0) (pa_cons (pe_bltn (v := .ty "bool") (by rfl) T.b_bool (by decide +kernel) rfl) pa_nil)))))))), ?_⟩
    tm_at "rds"
    refine ite2 (fun e => ?_) (fun e => ?_)
    · tm_at "rds"
      rw [isI_bool e]
      exact k
    · rw [isI_no e]
      exact k
end
end My
namespace My
open PySem PySem.Spec PyProof.Rows L2
section
variable {P : Program} {w : World} {K : PySem.W.Frag} {mg : Str → Option Value} {base : Heap}
def sp_is_from_nought : Sp := fun vs H Q _ => ∃ (x : V) (t : String), vs = [x] ∧ Ty7 H x t ∧ Q (.bl (isN x)) H
theorem ok_is_from_nought (T : Tx K mg) : FnOk P w K mg base CX0 2 T.d_is_from_nought.f T.d_is_from_nought.fd ["thing"] (sp_is_from_nought) := by
  refine T.d_is_from_nought.F.ok sc_is_from_nought (fun vs H Q E h => ?_) (fun cdv A outer s H vs Q E hr h => ?_)
  · obtain ⟨x, t, rfl, _⟩ := h
    rfl
  · obtain ⟨x, t, rfl, ht, k⟩ := h
    refine ⟨_, (pss_one (ps_ret (pe_and (pe_call (ok_is_whole T) (hr.mono (by decide)) (by rfl) T.d_is_whole.g T.d_is_whole.F.kp T.d_is_whole.b .nil pass0 (pa_cons (pv 0) pa_nil)) (pe_one (pe_cmpR op_ge (pv 0) pe_int (nomark _)))))), ?_⟩
    refine ⟨_, rfl, x, t, rfl, ht, ?_⟩
    tm_at "rds"
    refine ite2 (fun e => ?_) (fun e => ?_)
    · obtain ⟨i, rfl⟩ := isI_of e
      tm_at "rds"
      exact k
    · have : false = isN x := by cases x <;> simp_all [isI, isN]
      rw [this]
      exact k
end
end My
namespace My
open PySem PySem.Spec PyProof.Rows L2
section
variable {P : Program} {w : World} {K : PySem.W.Frag} {mg : Str → Option Value} {base : Heap}
def sp_check_total : Sp := fun vs H Q _ => ∃ (i : Int), vs = [.int i] ∧ 0 ≤ i ∧ Q .non H
theorem ok_check_total (T : Tx K mg) : FnOk P w K mg base CX0 3 T.d_check_total.f T.d_check_total.fd ["total"] (sp_check_total) := by
  refine T.d_check_total.F.ok sc_check_total (fun vs H Q E h => ?_) (fun cdv A outer s H vs Q E hr h => ?_)
  · obtain ⟨x, rfl, _⟩ := h
    rfl
  · obtain ⟨i, rfl, h0, k⟩ := h
    refine ⟨_, (pss_one (ps_if (pt_not (pt_val (pe_call (ok_is_from_nought T) (hr.mono (by decide)) (by rfl) T.d_is_from_nought.g T.d_is_from_nought.F.kp T.d_is_from_nought.b .nil pass0 (pa_cons (pv 0) pa_nil))))
      (pss_one ps_never)
      pss_nil)), ?_⟩
    refine ⟨_, rfl, _, _, rfl, .int i, ?_⟩
    have e : isN (.int i) = true := decide_eq_true h0
    rw [e]
    tm_at "rds"
    exact k
end
end My
namespace My
open PySem PySem.Spec PyProof.Rows L2
section
variable {P : Program} {w : World} {K : PySem.W.Frag} {mg : Str → Option Value} {base : Heap}
def sp_check_weights : Sp := fun vs H Q _ => ∃ (a : Addr) (ns : List Int), vs = [.ref a, .int ns.length] ∧ H a = some (.lst (ns.map .int)) ∧ ns.length ≤ 1000 ∧ (∀ z ∈ ns, 0 ≤ z) ∧ ∀ H', Same H H' → Q .non H'
theorem ok_check_weights (T : Tx K mg) : FnOk P w K mg base CX0 3 T.d_check_weights.f T.d_check_weights.fd ["weights", "many"] (sp_check_weights) := by
  refine T.d_check_weights.F.ok sc_check_weights (fun vs H Q E h => ?_) (fun cdv A outer s H vs Q E hr h => ?_)
  · obtain ⟨x, t, rfl, _⟩ := h
    rfl
  · obtain ⟨a, ns, rfl, hA, hl, h0, k⟩ := h
    refine ⟨_, (pss_one (ps_if (PW.pt (pw_or (pt_not (pt_val (pe_callB is_list (by rfl) T.b_isinstance (by decide +kernel) (pa_cons (pv 0) (pa_cons (pe_bltn (v := .ty "list") (by rfl) T.b_list (by decide +kernel) rfl) pa_nil))))) (pw_or (pt_cmpR op_ne (pe_callB (call_lenK (K := K) rfl) (by rfl) T.b_len (by decide +kernel) (pa_cons (pv 0) pa_nil)) (pv 1) (nomark _)) (pw_or1 (pt_not (pt_val (pe_callB (cr_allK (K := K) rfl rfl) (by rfl) T.b_all (by decide +kernel) (pa_cons (pe_lc (own := [("one", 2)]) (g := gName 2) (by rfl) sc_check_weights.nd (pi_listK (K := K) rfl (pv 0)) (blkOk_by (own := [("one", 2)]) (N := N_check_weights) (sc := defScope s_check_weights) (by decide +kernel)) (fun _ _ _ _ _ => (pg_name (i := 2) sc_check_weights.nd rfl (Or.inl rfl))) (fun _ _ _ _ _ => pts_nil) (fun _ _ _ _ _ => (pe_call (ok_is_from_nought T) (hr.mono (by decide)) (by rfl) T.d_is_from_nought.g T.d_is_from_nought.F.kp T.d_is_from_nought.b .nil pass0 (pa_cons (pv 2) pa_nil)))) pa_nil))))))))
      (pss_one ps_never)
      pss_nil)), ?_⟩
    tm_at "rds"
    have e : (!decide (V.int ((ns.map V.int).length : Int) = V.int (ns.length : Int))) = false := by
      rw [List.length_map, decide_eq_true rfl]; rfl
    rw [e]
    refine iteF ?_
    tm_at "rds"
    refine ⟨⟨_, sqL hA⟩, fun D hD => lcLq (K := K) (xs := ns.map V.int) (fun i => some (.bl true)) hD (sqL hA) (by rw [List.length_map]; omega) (fun i x H2 Kt Kf hx s2 q => ?_) (fun H2 s2 g2 => ?_)⟩
    · obtain ⟨z, hz, rfl⟩ := int_of_map hx
      tm_at "rds"
      refine q.yes _ _ (Same.refl _) ?_
      show some (V.bl true) = some (V.bl (decide (0 ≤ z)))
      rw [decide_eq_true (h0 z (List.mem_of_getElem? hz))]
    · tm_at "rds"
      refine ⟨_, List.replicate ns.length true, rfl, ?_, ?_⟩
      · refine sqL (g2.trans ?_)
        rw [List.length_map, lcYs_const, List.map_replicate]
      · have e2 : (List.replicate ns.length true).all id = true := by simp
        rw [e2]
        tm_at "rds"
        exact k _ s2
end
end My
namespace My
open PySem PySem.Spec PyProof.Rows L2
section
variable {P : Program} {w : World} {K : PySem.W.Frag} {mg : Str → Option Value} {base : Heap}
def sp_lowest : Sp := fun vs H Q _ => ∃ (a b : Int), vs = [.int a, .int b] ∧ 0 ≤ a ∧ a < 2 ^ 64 ∧ 0 < b ∧ b < 2 ^ 64 ∧ New H (.tup [.int (a / (Int.gcd a b : Int)), .int (b / (Int.gcd a b : Int))]) Q
theorem ok_lowest (T : Tx K mg) : FnOk P w K mg base CX0 1 T.d_lowest.f T.d_lowest.fd ["top", "bottom"] (sp_lowest) := by
  refine T.d_lowest.F.ok sc_lowest (fun vs H Q E h => ?_) (fun cdv A outer s H vs Q E hr h => ?_)
  · obtain ⟨a, b, rfl, _⟩ := h
    rfl
  · obtain ⟨a, b, rfl, a0, a1, b0, b1, k⟩ := h
    refine ⟨_, (pss_cons (ps_par (i := 2) (j := 3) (by rfl) sc_lowest.nd rfl rfl (by decide) rfl rfl (pa_cons (pv 0) (pa_cons (pv 1) pa_nil)) (by rfl))
      (pss_cons (ps_while PassesOwn.never (pt_cmpR op_ne (pv 3) pe_int (nomark _))
      (pss_one (ps_par (i := 2) (j := 3) (by rfl) sc_lowest.nd rfl rfl (by decide) rfl rfl (pa_cons (pv 3) (pa_cons (pe_op op_mod (pv 2) (pv 3)) pa_nil)) (by rfl))))
      (pss_one (ps_ret (pe_tupA (pa_cons (pe_op op_fdivW (pv 0) (pv 2)) (pa_cons (pe_op op_fdivW (pv 1) (pv 2)) pa_nil))))))), ?_⟩
    tm_at "rds"
    obtain ⟨A0, rfl⟩ : ∃ n : Nat, a = (n : Int) := ⟨a.toNat, by omega⟩
    obtain ⟨B0, rfl⟩ : ∃ n : Nat, b = (n : Int) := ⟨b.toNat, by omega⟩
    refine ⟨fun m σ H' => ∃ x y : Nat, σ = [some (.int A0), some (.int B0), some (.int (x : Int)), some (.int (y : Int))] ∧ H' = H ∧ Nat.gcd x y = Nat.gcd A0 B0 ∧ m = y, ⟨_, A0, B0, rfl, rfl, rfl, rfl⟩, ?_⟩
    rintro m σ H' ⟨x, y, rfl, rfl, hg, rfl⟩
    tm_at "rds"
    have g0 : 0 < Nat.gcd A0 B0 := Nat.gcd_pos_of_pos_right _ (by omega)
    by_cases hy : m = 0
    · subst hy
      have e : (!decide (V.int ((0 : Nat) : Int) = V.int 0)) = false := rfl
      rw [e]
      refine iteF ?_
      rw [Nat.gcd_zero_right] at hg
      have eg : (Int.gcd (A0 : Int) (B0 : Int) : Int) = (x : Int) := by rw [hg]; rfl
      have x0 : 0 < x := by omega
      have x1 : x ≤ B0 := by rw [hg]; exact Nat.gcd_le_right _ (by omega)
      rw [eg] at k
      tm_at "rds"
      exact k
    · have e : (!decide (V.int (m : Int) = V.int 0)) = true := by
        have : ¬ V.int (m : Int) = V.int 0 := fun z => by have := V.int.inj z; omega
        rw [decide_eq_false this]; rfl
      rw [e]
      refine iteT ⟨_, fun _ _ h => h, ?_⟩
      have m0 : 0 < m := by omega
      have m0' : (0 : Int) < (m : Int) := by omega
      refine ⟨_, rfl, _, rfl, _, rfl, _, _, rfl, rfl, m0', _, _, rfl, ?_⟩
      refine ⟨x % m, Nat.mod_lt _ m0, m, x % m, ?_, rfl, ?_, rfl⟩
      · rw [Int.natCast_emod]; rfl
      · rw [← hg, Nat.gcd_comm m, ← Nat.gcd_rec, Nat.gcd_comm]
end
end My
namespace My
open PySem PySem.Spec PyProof.Rows L2
section
variable {P : Program} {w : World} {K : PySem.W.Frag} {mg : Str → Option Value} {base : Heap}
/-- a running dict -/
def runK (t b : Int) (ws : List Int) (chosen : List Nat) : List (Key × V) := (runD t b (wAt ws) chosen 0).map fun q => (Sum.inl (q.1 : Int), V.int q.2)
theorem runK_more (t b : Int) (ws : List Int) (l : List Nat) (i : Nat) (h : i ∉ l) : putK (runK t b ws l) (Sum.inl (i : Int)) (.int (part t b (S (wAt ws) l) (wAt ws i))) = runK t b ws (l ++ [i]) := by
  have e : valV (runK t b ws l) (Sum.inl (i : Int)) = none := by
    have ha := valV_any (Sum.inl (i : Int)) (runK t b ws l)
    have hf : ((runK t b ws l).any fun kv => decide (kv.1 = Sum.inl (i : Int))) = false := by
      rw [List.any_eq_false]
      intro q hq
      obtain ⟨r, hr, rfl⟩ := List.mem_map.mp hq
      simp only [decide_eq_true_eq]
      intro e
      have e2 : (r.1 : Int) = (i : Int) := Sum.inl.inj e
      have hm : r.1 ∈ (runD t b (wAt ws) l 0).map (·.1) := List.mem_map.mpr ⟨r, hr, rfl⟩
      rw [runD_fst] at hm
      exact h (by have : r.1 = i := by omega
                  rw [← this]; exact hm)
    rw [hf] at ha
    cases hv : valV (runK t b ws l) (Sum.inl (i : Int)) with
    | none => rfl
    | some v => rw [hv] at ha; cases ha
  rw [putK_new _ e]
  unfold runK
  rw [runD_append, List.map_append, Int.zero_add]
  rfl
theorem runK_len (t b : Int) (ws : List Int) (l : List Nat) : (runK t b ws l).length = l.length := by
  unfold runK
  rw [List.length_map]
  have := congrArg List.length (runD_fst t b (wAt ws) l 0)
  rw [List.length_map] at this
  exact this
def sp_running (K : PySem.W.Frag) : Sp := fun vs H Q _ => ∃ (L W C : Addr) (t b : Int) (ws : List Int) (ch : List Nat), vs = [.ref L, .ref W, .ref C] ∧ SqT K H L [.int t, .int b] ∧ SqL K H W (ws.map .int) ∧
  SqL K H C (natsV ch) ∧ 0 ≤ t ∧ t < 2 ^ 64 ∧ 0 < b ∧ b < 2 ^ 64 ∧ (∀ i ∈ ch, i < ws.length) ∧ ch.Nodup ∧ ch.length ≤ 1000 ∧
  ∀ d H', Same H H' → H d = none → H' d = some (.dK (runK t b ws ch)) → Q (.ref d) H'
theorem ok_running (T : Tx K mg) : FnOk P w K mg base CX0 1 T.d_running.f T.d_running.fd ["level", "weights", "chosen"] (sp_running K) := by
  refine T.d_running.F.ok sc_running (fun vs H Q E h => ?_) (fun cdv A outer s H vs Q E hr h => ?_)
  · obtain ⟨L, W, C, t, b, ws, ch, rfl, _⟩ := h
    rfl
  · obtain ⟨L, W, C, t, b, ws, ch, rfl, hL, hW, hC, t0, t1, b0, b1, hin, hnd, hlen, k⟩ := h
    refine ⟨_, (pss_cons (ps_asg (pv 0) (pg_tup (by rfl) (pgs_cons (pg_name (i := 3) sc_running.nd rfl (Or.inl rfl)) (pgs_cons (pg_name (i := 4) sc_running.nd rfl (Or.inl rfl)) pgs_nil))))
      (pss_cons (ps_asg2 pe_int (pg_name (i := 5) sc_running.nd rfl (Or.inl rfl)) (pg_name (i := 6) sc_running.nd rfl (Or.inl rfl)))
      (pss_cons (ps_set (i := 7) sc_running.nd rfl (Or.inl rfl) pe_dnewA)
      (pss_cons (ps_for PassesOwn.never (by rfl) (pi_listK (K := K) rfl (pv 2)) (pg_name (i := 8) sc_running.nd rfl (Or.inl rfl))
      (pss_cons (ps_aug (i := 6) sc_running.nd rfl (Or.inl rfl) (pe_ix (ix_listK (K := K) rfl) (pv 1) (pv 8) (fun _ _ => rfl)) ip_add)
      (pss_cons (ps_dput (hu_of hr) (pv 7) (pv 8) (pe_op op_sub (pe_op op_fdivW (pe_op op_mul (pv 3) (pv 6)) (pv 4)) (pe_op op_fdivW (pe_op op_mul (pv 3) (pv 5)) (pv 4))) rfl)
      (pss_one (ps_set (i := 5) sc_running.nd rfl (Or.inl rfl) (pv 6))))))
      (pss_one (ps_ret (pv 7))))))), ?_⟩
    refine ⟨_, rfl, _, _, rfl, hL, rfl, _, _, rfl, _, _, rfl, rfl, ?_⟩
    intro d H1 n1 S1 g1
    refine ⟨_, rfl, C, rfl, ⟨_, S1.seq hC⟩, for_list (K := K) (a := C) (xs := natsV ch) (fun i σ H2 => ∃ v : Option V, σ = [some (.ref L), some (.ref W), some (.ref C), some (.int t), some (.int b), some (.int (S (wAt ws) (ch.take i))), some (.int (S (wAt ws) (ch.take i))), some (.ref d), v] ∧
        Same H H2 ∧ H2 d = some (.dK (runK t b ws (ch.take i))))
      ⟨_, rfl, S1, g1⟩ (fun i σ H2 _ ⟨_, _, s2, _⟩ => s2.seq hC) ?_ ?_⟩
    · rintro i y σ H2 hi ⟨v, rfl, s2, g2⟩
      obtain ⟨c, hc, rfl⟩ : ∃ c, ch[i]? = some c ∧ y = V.int (c : Int) := by
        rw [List.getElem?_map] at hi
        cases e : ch[i]? with
        | none => rw [e] at hi; cases hi
        | some c => rw [e] at hi; exact ⟨c, rfl, (Option.some.inj hi).symm⟩
      have hci : c < ws.length := hin c (List.mem_of_getElem? hc)
      have hw : (ws.map V.int)[c]? = some (.int (wAt ws c)) := by
        rw [List.getElem?_map, List.getElem?_eq_getElem hci]
        unfold wAt
        rw [List.getD_eq_getElem?_getD, List.getElem?_eq_getElem hci]; rfl
      have e1 : ch.take (i + 1) = ch.take i ++ [c] := by rw [List.take_add_one, hc]; rfl
      have e2 : S (wAt ws) (ch.take (i + 1)) = S (wAt ws) (ch.take i) + wAt ws c := by rw [e1, S_append, S_cons, S_nil]; omega
      have hno : c ∉ ch.take i := fun hm => by
        obtain ⟨j, hj, ej⟩ := List.getElem_of_mem hm
        rw [List.length_take] at hj
        rw [List.getElem_take] at ej
        have := nd_ix hnd (i := j) (j := i) (x := c) (by rw [List.getElem?_eq_getElem (by omega), ej]) hc
        omega
      refine ⟨_, rfl, _, rfl, _, rfl, ⟨_, _, _, _, rfl, rfl, s2.seq hW, atI_nat hw, _, _, rfl, rfl, ?_⟩⟩
      refine ⟨_, rfl, _, rfl, _, _, rfl, rfl, .inl ⟨by omega, t1⟩, _, rfl, _, _, rfl, rfl, wide_div (b := 64) b0 (by omega) (by decide) (by decide), _, rfl, _, rfl, _, _, rfl, rfl, .inl ⟨by omega, t1⟩, _, rfl, _, _, rfl, rfl, wide_div (b := 64) b0 (by omega) (by decide) (by decide), _, _, rfl, rfl, ?_⟩
      refine ⟨_, rfl, _, rfl, d, _, rfl, DPut.k (k := Sum.inl (c : Int)) g2 ?_, ?_⟩
      · rw [runK_len, List.length_take]; exact small1000 (by omega)
      · refine ⟨_, rfl, some (.int (c : Int)), ?_, ?_, ?_⟩
        · rw [e2]; rfl
        · exact Same.mut s2 n1
        · rw [e1, ← runK_more t b ws _ c hno]
          exact upd_same
    · rintro σ H2 ⟨v, rfl, s2, g2⟩
      rw [List.length_map, List.take_length] at g2
      exact ⟨_, rfl, k d H2 s2 n1 g2⟩
end
end My
namespace My
open PySem PySem.Spec PyProof.Rows L2
section
variable {P : Program} {w : World} {K : PySem.W.Frag} {mg : Str → Option Value} {base : Heap}
def sp_dealt_parts (K : PySem.W.Frag) : Sp := fun vs H Q _ => ∃ (C W : Addr) (total : Int) (cs : List (Option Int)) (ws : List Int), vs = [.int total, .ref C, .ref W] ∧ SqL K H C (cs.map optI) ∧ SqL K H W (ws.map .int) ∧
  cs.length = ws.length ∧ ws.length ≤ 1000 ∧ 0 ≤ total ∧ total < 2 ^ 64 ∧ (∀ z, some z ∈ cs → 0 ≤ z) ∧ (∀ z ∈ ws, 0 ≤ z ∧ z < 2 ^ 48) ∧
  ∀ p q lv lvv fs H', Same H H' → H p = none → H q = none → H' p = some (.tup [lvv, .ref q]) → H' q = some (.lst (fs.map .int)) → LvAt H' lv lvv → (∀ t b, lv = some (t, b) → t < 2 ^ 64 ∧ b < 2 ^ 64) → Dealt ws.length (wAt ws) (cAt cs) total lv fs → Q (.ref p) H'
theorem ok_dealt_parts (T : Tx K mg) : FnOk P w K mg base CX0 2 T.d_dealt_parts.f T.d_dealt_parts.fd ["total", "caps", "weights"] (sp_dealt_parts K) := by
  refine T.d_dealt_parts.F.ok sc_dealt_parts (fun vs H Q E h => ?_) (fun cdv A outer s H vs Q E hr h => ?_)
  · obtain ⟨C, W, total, cs, ws, rfl, _⟩ := h
    rfl
  · obtain ⟨C, W, total, cs, ws, rfl, hC, hW, hlen, hn, T0, T1, hc0, hw0, k⟩ := h
    have wp : ∀ i, i < ws.length → 0 ≤ wAt ws i ∧ wAt ws i < 2 ^ 48 := fun i hi => hw0 _ (wAt_mem hi)
    refine ⟨_, (pss_cons (ps_setLc (i := 4) (own := [("at", 3), ("weight", 10)]) (g := gTup K 2 (gCons (gName 3) (gCons (gName 10) gNil))) (by rfl) sc_dealt_parts.nd rfl rfl (sw_true rfl rfl rfl (by decide +kernel)) (pi_enumK (K := K) rfl (by rfl) T.b_enumerate (pa_cons (pv 2) pa_nil)) (blkOk_by (own := [("at", 3), ("weight", 10)]) (N := N_dealt_parts) (sc := defScope s_dealt_parts) (by decide +kernel)) (fun _ _ _ _ _ => (pg_tup (by rfl) (pgs_cons (pg_name (i := 3) sc_dealt_parts.nd rfl (Or.inl rfl)) (pgs_cons (pg_name (i := 10) sc_dealt_parts.nd rfl (Or.inl rfl)) pgs_nil)))) (fun _ _ _ _ _ => (pts_one (pt_cmpR op_gt (pv 10) pe_int (nomark _)))) (fun _ _ _ _ _ => (pv 3)))
      (pss_cons (ps_set (i := 5) sc_dealt_parts.nd rfl (Or.inl rfl) (pe_op op_repA (pe_lstA (pa_cons pe_int pa_nil)) (pe_callB (call_lenK (K := K) rfl) (by rfl) T.b_len (by decide +kernel) (pa_cons (pv 2) pa_nil))))
      (pss_cons (ps_while PassesOwn.never (pt_cmpR (op_neIsK (K := K) hr.units rfl) (pv 4) (pe_lstA pa_nil) (nomark _))
      (pss_cons (ps_set (i := 6) sc_dealt_parts.nd rfl (Or.inr rfl) (pe_callB (cr_sumK (K := K) rfl rfl) (by rfl) T.b_sum (by decide +kernel) (pa_cons (pe_lc (own := [("at", 3)]) (g := gName 3) (by rfl) sc_dealt_parts.nd (pi_listK (K := K) rfl (pv 4)) (blkOk_by (own := [("at", 3)]) (N := N_dealt_parts) (sc := defScope s_dealt_parts) (by decide +kernel)) (fun _ _ _ _ _ => (pg_name (i := 3) sc_dealt_parts.nd rfl (Or.inl rfl))) (fun _ _ _ _ _ => pts_nil) (fun _ _ _ _ _ => (pe_ix (ix_listK (K := K) rfl) (pv 2) (pv 3) (fun _ _ => rfl)))) pa_nil)))
      (pss_cons (ps_set (i := 7) sc_dealt_parts.nd rfl (Or.inr rfl) (pe_lc (own := [("at", 3)]) (g := gName 3) (by rfl) sc_dealt_parts.nd (pi_listK (K := K) rfl (pv 4)) (blkOk_by (own := [("at", 3)]) (N := N_dealt_parts) (sc := defScope s_dealt_parts) (by decide +kernel)) (fun _ _ _ _ _ => (pg_name (i := 3) sc_dealt_parts.nd rfl (Or.inl rfl))) (fun _ _ _ _ _ => (pts_one (PW.pt (pw_and (pt_cmpR op_notN (pe_ix (ix_listK (K := K) rfl) (pv 1) (pv 3) (fun _ _ => rfl)) pe_non (nomark _)) (pw_and1 (pt_cmpR op_le (pe_op op_mul (pe_ix (ix_listK (K := K) rfl) (pv 1) (pv 3) (fun _ _ => rfl)) (pv 6)) (pe_op op_mul (pv 0) (pe_ix (ix_listK (K := K) rfl) (pv 2) (pv 3) (fun _ _ => rfl))) (nomark _))))))) (fun _ _ _ _ _ => (pv 3))))
      (pss_cons (ps_if (pt_cmpR (op_eqIsK (K := K) hr.units rfl) (pv 7) (pe_lstA pa_nil) (nomark _))
      (pss_cons (ps_set (i := 8) sc_dealt_parts.nd rfl (Or.inl rfl) (pe_call (ok_lowest T) (hr.mono (by decide)) (by rfl) T.d_lowest.g T.d_lowest.F.kp T.d_lowest.b .nil pass0 (pa_cons (pv 0) (pa_cons (pv 6) pa_nil))))
      (pss_cons (ps_for PassesOwn.never (by rfl) (pi_itemsN (pe_call (ok_running T) (hr.mono (by decide)) (by rfl) T.d_running.g T.d_running.F.kp T.d_running.b .nil pass0 (pa_cons (pv 8) (pa_cons (pv 2) (pa_cons (pv 4) pa_nil))))) (pg_tup (by rfl) (pgs_cons (pg_name (i := 3) sc_dealt_parts.nd rfl (Or.inl rfl)) (pgs_cons (pg_name (i := 9) sc_dealt_parts.nd rfl (Or.inl rfl)) pgs_nil)))
      (pss_one (ps_asg (pv 9) (pg_sub (pv 5) (pv 3) set_listA))))
      (pss_one (ps_ret (pe_tupA (pa_cons (pv 8) (pa_cons (pv 5) pa_nil)))))))
      pss_nil)
      (pss_cons (ps_for PassesOwn.never (by rfl) (pi_listK (K := K) rfl (pv 7)) (pg_name (i := 3) sc_dealt_parts.nd rfl (Or.inl rfl))
      (pss_cons (ps_asg (pe_ix (ix_listK (K := K) rfl) (pv 1) (pv 3) (fun _ _ => rfl)) (pg_sub (pv 5) (pv 3) set_listA))
      (pss_one (ps_aug (i := 0) sc_dealt_parts.nd rfl (Or.inr rfl) (pe_ix (ix_listK (K := K) rfl) (pv 1) (pv 3) (fun _ _ => rfl)) ip_sub))))
      (pss_one (ps_setLc (i := 4) (own := [("at", 3)]) (g := gName 3) (by rfl) sc_dealt_parts.nd rfl rfl (sw_true rfl rfl rfl (by decide +kernel)) (pi_listK (K := K) rfl (pv 4)) (blkOk_by (own := [("at", 3)]) (N := N_dealt_parts) (sc := defScope s_dealt_parts) (by decide +kernel)) (fun _ _ _ _ _ => (pg_name (i := 3) sc_dealt_parts.nd rfl (Or.inl rfl))) (fun _ _ _ _ _ => (pts_one (pt_cmpR (op_notInK (K := K) rfl) (pv 3) (pv 7) (by rfl)))) (fun _ _ _ _ _ => (pv 3)))))))))
      (pss_one (ps_ret (pe_tupA (pa_cons pe_non (pa_cons (pv 5) pa_nil)))))))), ?_⟩
    -- rest = [at for at, weight in enumerate(weights) if weight > 0]
    refine ⟨_, rfl, W, _, rfl, hW, fun D hD => lcEq (K := K) (xs := ws.map V.int) (fun i => if decide (0 < wAt ws i) = true then some (.int (i : Int)) else none) hD hW (by rw [List.length_map]; omega) (fun i x T H2 Kt Kf hx s2 gT q => ?_) (fun H2 s2 g2 => ?_)⟩
    · have hi : i < ws.length := by have := (List.getElem?_eq_some_iff.mp hx).1; rw [List.length_map] at this; exact this
      have ex : x = V.int (wAt ws i) := Option.some.inj (hx.symm.trans (int_at hi))
      subst ex
      refine ⟨_, _, rfl, sqT gT, rfl, _, _, rfl, _, _, rfl, rfl, rfl, _, rfl, _, _, rfl, rfl, _, rfl, ite2 (fun e => ?_) (fun e => ?_)⟩
      · refine ⟨_, rfl, q.yes _ _ (Same.refl _) ?_⟩
        rw [if_pos e]
      · refine q.no _ (Same.refl _) ?_
        rw [if_neg e]
    rw [List.length_map, lcYs_range ws.length (fun i => decide (0 < wAt ws i)) _ (fun i _ => rfl)] at g2
    -- found = [0] * len(weights)
    tm_at "rds"
    intro L0 H3 n3 s3 g3
    tm_at "rds"
    refine ⟨_, _, _, rfl, rfl, g3, by rw [List.length_map]; omega, by rw [List.length_map]; omega, by rw [List.length_map]; exact Nat.le_of_lt (small1000 (by simp; omega)), ?_⟩
    intro F H4 n4 s4 g4
    have eF : (List.replicate (((ws.map V.int).length : Int)).toNat [V.int 0]).flatten = (List.replicate ws.length (0 : Int)).map V.int := by
      rw [List.length_map, Int.toNat_natCast]; exact rep_zero _
    rw [eF] at g4
    have sH : Same H H4 := ((s2.trans s3).trans s4)
    have nF : H F = none := by tm_at "fr"
    -- while rest != []
    refine ⟨fun m σ H' => ∃ (p : Nat → Bool) (T : Int) (f : List Int) (R : Addr) (v3 v6 v7 v8 v9 v10 : Option V), σ = [some (.int T), some (.ref C), some (.ref W), v3, some (.ref R), some (.ref F), v6, v7, v8, v9, v10] ∧ Same H H' ∧
        H' R = some (.lst (natsV ((List.range ws.length).filter p))) ∧ R ≠ F ∧ H' F = some (.lst (f.map V.int)) ∧ DI ws.length (wAt ws) (cAt cs) total p T f ∧ T ≤ total ∧ m = ((List.range ws.length).filter p).length,
      ⟨_, _, total, _, D, _, _, _, _, _, _, rfl, sH, s4 _ _ (s3 _ _ g2), (ne_of_none (s3 _ _ g2) n4), g4, DI.start T0, Int.le_refl _, rfl⟩, ?_⟩
    rintro m σ H5 ⟨p, T, f, R, v3, v6, v7, v8, v9, v10, rfl, s5, gR, hRF, gF, di, hT, rfl⟩
    have Tn := di.tn
    refine ⟨_, rfl, Nat.zero_le _, fun E0 H6 n6 s6 g6 => ⟨R, E0, natI ((List.range ws.length).filter p), [], rfl, rfl, ?_, sqL g6, _, rfl, ?_⟩⟩
    · rw [natsV_eq]; exact sqL (s6 _ _ gR)
    by_cases he : (List.range ws.length).filter p = []
    · -- nobody is left
      have e : (!decide (natI ((List.range ws.length).filter p) = [])) = false := by rw [decide_eq_true (natI_nil.mpr he)]; rfl
      rw [e]
      refine iteF ?_
      tm_at "rds"
      intro P7 H7 n7 s7 g7
      exact k P7 F none .non f H7 (by tm_at "sm") (by tm_at "fr") nF g7 (by tm_at "hp") rfl (fun t b e => by cases e) (di.fin0 he)
    have e : (!decide (natI ((List.range ws.length).filter p) = [])) = true := by rw [decide_eq_false (fun z => he (natI_nil.mp z))]; rfl
    rw [e]
    refine iteT ⟨_, fun _ _ h => h, ?_⟩
    have hnd : ((List.range ws.length).filter p).Nodup := List.Pairwise.filter _ List.nodup_range
    generalize hrest : (List.range ws.length).filter p = rest at *
    have hin : ∀ i ∈ rest, i < ws.length ∧ p i = true := fun i hi => by
      rw [← hrest] at hi
      exact ⟨List.mem_range.mp (List.mem_filter.mp hi).1, (List.mem_filter.mp hi).2⟩
    have hrl : rest.length ≤ ws.length := by
      rw [← hrest]
      have := List.length_filter_le p (List.range ws.length)
      rw [List.length_range] at this
      exact this
    -- whole
    have gR6 : H6 R = some (.lst (natsV rest)) := s6 _ _ gR
    refine ⟨_, rfl, _, rfl, ⟨_, sqL gR6⟩, fun D7 hD7 => lcLq (K := K) (xs := natsV rest) (fun i => some (.int (wAt ws (rest.getD i 0)))) hD7 (sqL gR6) (by rw [List.length_map]; omega) (fun i x H7 Kt Kf hx s7 q => ?_) (fun H7 s7 g7 => ?_)⟩
    · obtain ⟨c, hc, rfl⟩ := nat_of_map hx
      have hcl := (hin c (List.mem_of_getElem? hc)).1
      tm_at "rds"
      refine ⟨_, _, _, _, rfl, rfl, ((s5.trans s6).trans s7).seq hW, atI_nat (int_at hcl), q.yes _ _ (Same.refl _) ?_⟩
      show some (V.int (wAt ws (rest.getD i 0))) = some (V.int (wAt ws c))
      rw [List.getD_eq_getElem?_getD, hc]; rfl
    have e7 : lcYs (natsV rest).length (fun i => some (V.int (wAt ws (rest.getD i 0)))) = (rest.map (wAt ws)).map V.int := by
      rw [List.length_map, lcYs_map (fun i : Nat => V.int (wAt ws i)) rest _ (fun i x hx => by rw [List.getD_eq_getElem?_getD, hx]; rfl), List.map_map]
      rfl
    rw [e7] at g7
    tm_at "rds"
    refine ⟨_, _, rfl, sqL g7, ?_⟩
    have eW : (rest.map (wAt ws)).sum = S (wAt ws) rest := rfl
    rw [eW]
    have hWb : S (wAt ws) rest ≤ 2 ^ 48 * 1000 := by
      have h1 := S_bound (f := wAt ws) (c := 2 ^ 48) (R := rest) fun i hi => Int.le_of_lt (wp i (hin i hi).1).2
      omega
    have hWp : 0 < S (wAt ws) rest := S_pos (fun i hi => di.pw i (hin i hi).1 (hin i hi).2) he
    generalize hWW : S (wAt ws) rest = Wh at *
    have s57 : Same H H7 := (s5.trans s6).trans s7
    -- full
    tm_at "rds"
    refine ⟨⟨_, sqL (s7 _ _ gR6)⟩, fun D8 hD8 => lcLq (K := K) (xs := natsV rest) (fun i => if heldB T Wh (wAt ws) (cAt cs) (rest.getD i 0) = true then some (.int (rest.getD i 0 : Nat)) else none) hD8 (sqL (s7 _ _ gR6)) (by rw [List.length_map]; omega) (fun i x H8 Kt Kf hx s8 q => ?_) (fun H8 s8 g8 => ?_)⟩
    · obtain ⟨c, hc, rfl⟩ := nat_of_map hx
      have hcl := (hin c (List.mem_of_getElem? hc)).1
      have hcl2 : c < cs.length := by omega
      have ed : rest.getD i 0 = c := by rw [List.getD_eq_getElem?_getD, hc]; rfl
      have sC : SqL K H8 C (cs.map optI) := (s57.trans s8).seq hC
      have sW : SqL K H8 W (ws.map V.int) := (s57.trans s8).seq hW
      tm_at "rds"
      refine ⟨_, _, _, _, rfl, rfl, sC, atI_nat (opt_at hcl2), ?_⟩
      tm_at "rds"
      cases hcc : cAt cs c with
      | none =>
        refine q.no _ (Same.refl _) ?_
        show (if heldB T Wh (wAt ws) (cAt cs) (rest.getD i 0) = true then _ else _) = none
        have eh : heldB T Wh (wAt ws) (cAt cs) c = false := by unfold heldB; rw [hcc]
        rw [ed, eh]
        rfl
      | some z =>
        refine ⟨_, rfl, _, rfl, ⟨_, _, _, _, rfl, rfl, sC, atI_nat (opt_at hcl2), ?_⟩⟩
        rw [hcc]
        refine ⟨_, rfl, _, _, rfl, rfl, .inr ⟨by omega, by omega⟩, _, rfl, _, rfl, _, rfl, _, _, _, _, rfl, rfl, sW, atI_nat (int_at hcl), _, _, rfl, rfl, .inl ⟨by omega, by omega⟩, _, _, rfl, rfl, _, rfl, ite2 (fun e => ?_) (fun e => ?_)⟩
        · refine ⟨_, rfl, q.yes _ _ (Same.refl _) ?_⟩
          show (if heldB T Wh (wAt ws) (cAt cs) (rest.getD i 0) = true then _ else _) = _
          rw [ed, heldB_iff hcc, if_pos e]
        · refine q.no _ (Same.refl _) ?_
          show (if heldB T Wh (wAt ws) (cAt cs) (rest.getD i 0) = true then _ else _) = none
          rw [ed, heldB_iff hcc, if_neg e]
    have e8 : lcYs (natsV rest).length (fun i => if heldB T Wh (wAt ws) (cAt cs) (rest.getD i 0) = true then some (V.int (rest.getD i 0 : Nat)) else none) = natsV (rest.filter (heldB T Wh (wAt ws) (cAt cs))) := by
      rw [List.length_map, lcYs_filter (heldB T Wh (wAt ws) (cAt cs)) (fun i : Nat => V.int (i : Int)) rest _ (fun i x hx => by rw [List.getD_eq_getElem?_getD, hx]; rfl)]
    rw [e8] at g8
    -- if full == []
    tm_at "rds"
    intro E9 H9 n9 s9 g9
    refine ⟨D8, E9, natI (rest.filter (heldB T Wh (wAt ws) (cAt cs))), [], rfl, rfl, ?_, sqL g9, _, rfl, ?_⟩
    · rw [natsV_eq]; exact sqL (s9 _ _ g8)
    have s59 : Same H H9 := (s57.trans s8).trans s9
    have gF9 : H9 F = some (.lst (f.map V.int)) := s9 _ _ (s8 _ _ (s7 _ _ (s6 _ _ gF)))
    have gR9 : H9 R = some (.lst (natsV rest)) := s9 _ _ (s8 _ _ (s7 _ _ gR6))
    have gD9 : H9 D8 = some (.lst (natsV (rest.filter (heldB T Wh (wAt ws) (cAt cs))))) := s9 _ _ g8
    refine ite2 (fun ef => ?_) (fun ef => ?_)
    · -- the level
      have hfull : rest.filter (heldB T Wh (wAt ws) (cAt cs)) = [] := natI_nil.mp (of_decide_eq_true ef)
      have hg0 : 0 < Int.gcd T Wh := Int.gcd_pos_of_ne_zero_right _ (by omega)
      tm_at "rds"
      intro Lv H10 n10 s10 g10
      have eT : T = T / (Int.gcd T Wh : Int) * (Int.gcd T Wh : Int) := (Int.ediv_mul_cancel (Int.gcd_dvd_left ..)).symm
      have eWh : Wh = Wh / (Int.gcd T Wh : Int) * (Int.gcd T Wh : Int) := (Int.ediv_mul_cancel (Int.gcd_dvd_right ..)).symm
      have hcop : Int.gcd (T / (Int.gcd T Wh : Int)) (Wh / (Int.gcd T Wh : Int)) = 1 := Int.gcd_ediv_gcd_ediv_gcd hg0
      have t0 : 0 ≤ T / (Int.gcd T Wh : Int) := Int.ediv_nonneg Tn (by omega)
      have t1 : T / (Int.gcd T Wh : Int) ≤ T := Int.ediv_le_self _ Tn
      have b1 : Wh / (Int.gcd T Wh : Int) ≤ Wh := Int.ediv_le_self _ (by omega)
      generalize T / (Int.gcd T Wh : Int) = tt at *
      generalize Wh / (Int.gcd T Wh : Int) = bb at *
      have hgi : (0 : Int) < (Int.gcd T Wh : Int) := by omega
      have b0 : 0 < bb := Int.pos_of_mul_pos_right (by rw [Int.mul_comm, ← eWh]; exact hWp) hgi
      have dfin : Dealt ws.length (wAt ws) (cAt cs) total (some (tt, bb)) (putAll f (runD tt bb (wAt ws) rest 0)) := by
        have := di.fin1 Wh (by rw [hrest]; exact hWW.symm) (by rw [hrest]; exact he) (by rw [hrest]; exact hfull) eT eWh hgi hcop
        rw [hrest] at this
        exact this
      tm_at "rds"
      refine ⟨Lv, W, R, tt, bb, ws, rest, rfl, sqT g10, (s59.trans s10).seq hW, sqL (s10 _ _ gR9), t0, by omega, b0, by omega, fun i hi => (hin i hi).1, hnd, by omega, fun d H11 s11 n11 g11 => ?_⟩
      have sHH : Same H H11 := (s59.trans s10).trans s11
      have gF11 : H11 F = some (.lst (f.map V.int)) := s11 _ _ (s10 _ _ gF9)
      have hFd : F ≠ d := ne_of_none (s10 _ _ gF9) n11
      have gL11 := s11 _ _ g10
      have hLd : Lv ≠ d := ne_of_none g10 n11
      have nd : H d = none := ((s59.trans s10)).free n11
      have nLv : H Lv = none := s59.free n10
      have hLF : Lv ≠ F := (ne_of_none gF9 n10).symm
      refine ⟨d, _, rfl, g11, fun o H12 b12 g12 => for_items (d := d) (o := o) (kvs := runK tt bb ws rest) (fun i σ H' => ∃ u3 u9 : Option V, σ = [some (.int T), some (.ref C), some (.ref W), u3, some (.ref R), some (.ref F), some (.int Wh), some (.ref D8), some (.ref Lv), u9, v10] ∧
          Same H H' ∧ H' d = some (.frz o (.dK (runK tt bb ws rest))) ∧ H' F = some (.lst ((putAll f ((runD tt bb (wAt ws) rest 0).take i)).map V.int)) ∧ H' Lv = some (.tup [.int tt, .int bb]))
        ⟨_, _, rfl, Same.mut' sHH b12 nd, g12, b12 _ _ hFd gF11, b12 _ _ hLd gL11⟩ (fun i σ H' ⟨_, _, _, _, q, _⟩ => q) ?_ ?_⟩
      · rintro i kk vv T0' σ H13 H14 hkv ⟨u3, u9, rfl, s13, g13, gF13, gL13⟩ nT sT gT
        obtain ⟨q, hq, eq⟩ : ∃ q, (runD tt bb (wAt ws) rest 0)[i]? = some q ∧ (kk, vv) = (Sum.inl (q.1 : Int), V.int q.2) := by
          unfold runK at hkv
          rw [List.getElem?_map] at hkv
          cases e : (runD tt bb (wAt ws) rest 0)[i]? with
          | none => rw [e] at hkv; cases hkv
          | some q => rw [e] at hkv; exact ⟨q, rfl, (Option.some.inj hkv).symm⟩
        obtain ⟨rfl, rfl⟩ := Prod.mk.inj eq
        have hq1 : q.1 < f.length := by
          have hm : q.1 ∈ (runD tt bb (wAt ws) rest 0).map (·.1) := List.mem_map.mpr ⟨q, List.mem_of_getElem? hq, rfl⟩
          rw [runD_fst] at hm
          rw [di.len]
          exact (hin _ hm).1
        refine ⟨_, _, rfl, sqT gT, rfl, _, _, rfl, _, _, rfl, rfl, ?_⟩
        refine ⟨_, rfl, _, rfl, _, rfl, F, _, _, q.1, rfl, rfl, sT _ _ gF13, ixN_nat (by rw [List.length_map, putAll_len]; exact hq1), fun H15 b15 g15 => ?_⟩
        refine ⟨_, _, rfl, Same.mut' (s13.trans sT) b15 nF, b15 _ _ hFd.symm (sT _ _ g13), ?_, b15 _ _ hLF (sT _ _ gL13)⟩
        rw [g15, putAll_take hq, map_set V.int]
      · rintro σ H13 ⟨u3, u9, rfl, s13, g13, gF13, gL13⟩
        rw [List.take_of_length_le (by unfold runK; rw [List.length_map]; exact Nat.le_refl _)] at gF13
        tm_at "rds"
        intro P H14 n14 s14 g14
        exact k P F (some (tt, bb)) (.ref Lv) _ H14 (s13.trans s14) (s13.free n14) nF g14 (s14 _ _ gF13) ⟨Lv, rfl, s14 _ _ gL13⟩ (fun t b e => by cases e; exact ⟨by omega, by omega⟩) dfin
    · -- some are held
      generalize hfl : rest.filter (heldB T Wh (wAt ws) (cAt cs)) = full at *
      have hne : full ≠ [] := fun z => ef (decide_eq_true (natI_nil.mpr z))
      have mful : ∀ i ∈ full, i ∈ rest ∧ heldB T Wh (wAt ws) (cAt cs) i = true := fun i hi => by
        rw [← hfl] at hi
        exact List.mem_filter.mp hi
      have cful : ∀ i ∈ full, cAt cs i = some (capN (cAt cs) i) ∧ 0 ≤ capN (cAt cs) i := fun i hi => by
        obtain ⟨c, e, _⟩ := heldB_some (mful i hi).2
        have e2 : capN (cAt cs) i = c := by unfold capN; rw [e]; rfl
        rw [e2]
        exact ⟨e, hc0 c (cAt_mem e)⟩
      have dturn := di.turn Wh (by rw [hrest]; exact hWW.symm) (by rw [hrest]; exact he) full (by rw [hrest]; exact hfl.symm)
      have nD8 : H D8 = none := s57.free hD8
      have hDF : D8 ≠ F := (ne_of_none (s7 _ _ (s6 _ _ gF)) hD8).symm
      refine ⟨_, rfl, D8, rfl, ⟨_, sqL gD9⟩, for_list (K := K) (a := D8) (xs := natsV full) (fun i σ H' => ∃ u3 : Option V, σ = [some (.int (T - S (capN (cAt cs)) (full.take i))), some (.ref C), some (.ref W), u3, some (.ref R), some (.ref F), some (.int Wh), some (.ref D8), v8, v9, v10] ∧
          Same H H' ∧ H' D8 = some (.lst (natsV full)) ∧ H' R = some (.lst (natsV rest)) ∧ H' F = some (.lst ((putAll f ((full.map fun i => (i, capN (cAt cs) i)).take i)).map V.int)))
        ⟨_, by rw [List.take_zero, S_nil, Int.sub_zero]; rfl, s59, gD9, gR9, gF9⟩ (fun i σ H' _ ⟨_, _, _, q, _⟩ => sqL q) ?_ ?_⟩
      · rintro i y σ H10 hi ⟨u3, rfl, s10, g10, gR10, gF10⟩
        obtain ⟨c, hc, rfl⟩ := nat_of_map hi
        have hcf := List.mem_of_getElem? hc
        have hcl := (hin c (mful c hcf).1).1
        have hcl2 : c < cs.length := by omega
        obtain ⟨ec, c0⟩ := cful c hcf
        have sC : ∀ H', Same H H' → SqL K H' C (cs.map optI) := fun H' s => s.seq hC
        have hat : atI (cs.map optI) (c : Int) = some (.int (capN (cAt cs) c)) := by
          have := opt_at hcl2
          rw [ec] at this
          exact atI_nat this
        refine ⟨_, rfl, _, rfl, _, _, _, _, rfl, rfl, s10.seq hC, hat, ?_⟩
        refine ⟨_, rfl, _, rfl, F, _, _, c, rfl, rfl, gF10, ixN_nat (by rw [List.length_map, putAll_len, di.len]; exact hcl), fun H11 b11 g11 => ?_⟩
        have s11 : Same H H11 := Same.mut' s10 b11 nF
        refine ⟨_, rfl, _, rfl, _, rfl, _, _, _, _, rfl, rfl, s11.seq hC, hat, _, _, rfl, rfl, ?_⟩
        have e1 : full.take (i + 1) = full.take i ++ [c] := by rw [List.take_add_one, hc]; rfl
        refine ⟨some (.int (c : Int)), ?_, s11, b11 _ _ hDF g10, b11 _ _ hRF gR10, ?_⟩
        · rw [e1, S_append, S_cons, S_nil, Int.add_zero, ← Int.sub_sub]; rfl
        · have hq : (full.map fun i => (i, capN (cAt cs) i))[i]? = some (c, capN (cAt cs) c) := by rw [List.getElem?_map, hc]; rfl
          rw [g11, putAll_take hq, map_set V.int]
      · rintro σ H10 ⟨u3, rfl, s10, g10, gR10, gF10⟩
        rw [List.length_map, List.take_length]
        rw [List.length_map, List.take_of_length_le (by rw [List.length_map]; exact Nat.le_refl _)] at gF10
        -- rest = [at for at in rest if at not in full]
        refine ⟨_, rfl, _, rfl, ⟨_, sqL gR10⟩, fun D11 hD11 => lcLq (K := K) (xs := natsV rest) (fun i => if (!decide (rest.getD i 0 ∈ full)) = true then some (.int (rest.getD i 0 : Nat)) else none) hD11 (sqL gR10) (by rw [List.length_map]; omega) (fun i x H11 Kt Kf hx s11 q => ?_) (fun H11 s11 g11 => ?_)⟩
        · obtain ⟨c, hc, rfl⟩ := nat_of_map hx
          have ed : rest.getD i 0 = c := by rw [List.getD_eq_getElem?_getD, hc]; rfl
          tm_at "rds"
          refine ⟨_, _, rfl, .inl (sqL (s11 _ _ g10)), rfl, flat_nats full, _, rfl, ?_⟩
          rw [inV_nats]
          refine ite2 (fun e => ?_) (fun e => ?_)
          · refine ⟨_, rfl, q.yes _ _ (Same.refl _) ?_⟩
            show (if (!decide (rest.getD i 0 ∈ full)) = true then _ else _) = _
            have e' : (!decide (c ∈ full)) = true := e
            rw [ed, if_pos e']
          · refine q.no _ (Same.refl _) ?_
            have e' : ¬ (!decide (c ∈ full)) = true := e
            show (if (!decide (rest.getD i 0 ∈ full)) = true then _ else _) = none
            rw [ed, if_neg e']
        have e11 : lcYs (natsV rest).length (fun i => if (!decide (rest.getD i 0 ∈ full)) = true then some (V.int (rest.getD i 0 : Nat)) else none) = natsV ((List.range ws.length).filter fun i => p i && !heldB T Wh (wAt ws) (cAt cs) i) := by
          rw [List.length_map, lcYs_filter (fun i : Nat => !decide (i ∈ full)) (fun i : Nat => V.int (i : Int)) rest _ (fun i x hx => by rw [List.getD_eq_getElem?_getD, hx]; rfl)]
          rw [← filter_not_mem, hrest, hfl]
        rw [e11] at g11
        have hS : 0 ≤ S (capN (cAt cs)) full := S_nonneg fun i hi => (cful i hi).2
        refine ⟨((List.range ws.length).filter fun i => p i && !heldB T Wh (wAt ws) (cAt cs) i).length, ?_, _, T - S (capN (cAt cs)) full, putAll f (full.map fun i => (i, capN (cAt cs) i)), D11, u3, some (.int Wh), some (.ref D8), v8, v9, v10, rfl, s10.trans s11, g11, (ne_of_none gF10 hD11).symm, s11 _ _ gF10, dturn, by omega, rfl⟩
        rw [← filter_not_mem, hrest, hfl]
        obtain ⟨j, hj⟩ : ∃ j, j ∈ full := List.exists_mem_of_ne_nil full hne
        exact filter_lt (mful j hj).1 (by rw [decide_eq_true hj]; rfl)
end
end My
namespace My
open PySem PySem.Spec PyProof.Rows L2
section
variable {P : Program} {w : World} {K : PySem.W.Frag} {mg : Str → Option Value} {base : Heap}
def sp_levelled_parts (K : PySem.W.Frag) : Sp := fun vs H Q _ => ∃ (C W : Addr) (total : Int) (fl : List Int) (ws : List Int), vs = [.int total, .ref C, .ref W] ∧ H C = some (.lst (fl.map .int)) ∧ H W = some (.lst (ws.map .int)) ∧
  fl.length = ws.length ∧ ws.length ≤ 1000 ∧ 0 ≤ total ∧ total < 2 ^ 64 ∧ (∀ z ∈ fl, 0 ≤ z) ∧ (∀ z ∈ ws, 0 ≤ z ∧ z < 2 ^ 48) ∧
  ∀ p q lv lvv fs H', Same H H' → H p = none → H q = none → H' p = some (.tup [lvv, .ref q]) → H' q = some (.lst (fs.map .int)) → LvAt H' lv lvv → (∀ t b, lv = some (t, b) → t < 2 ^ 64 ∧ b < 2 ^ 64) → Lev ws.length (wAt ws) (wAt fl) total lv fs → Q (.ref p) H'
theorem ok_levelled_parts (T : Tx K mg) : FnOk P w K mg base CX0 2 T.d_levelled_parts.f T.d_levelled_parts.fd ["total", "floors", "weights"] (sp_levelled_parts K) := by
  refine T.d_levelled_parts.F.ok sc_levelled_parts (fun vs H Q E h => ?_) (fun cdv A outer s H vs Q E hr h => ?_)
  · obtain ⟨C, W, total, fl, ws, rfl, _⟩ := h
    rfl
  · obtain ⟨C, W, total, fl, ws, rfl, hC, hW, hlen, hn, T0, T1, hc0, hw0, k⟩ := h
    have wp : ∀ i, i < ws.length → 0 ≤ wAt ws i ∧ wAt ws i < 2 ^ 48 := fun i hi => hw0 _ (wAt_mem hi)
    have fp : ∀ i, i < ws.length → 0 ≤ wAt fl i := fun i hi => hc0 _ (wAt_mem (by omega))
    refine ⟨_, (pss_cons (ps_setLc (i := 4) (own := [("at", 3), ("weight", 10)]) (g := gTup K 2 (gCons (gName 3) (gCons (gName 10) gNil))) (by rfl) sc_levelled_parts.nd rfl rfl (sw_true rfl rfl rfl (by decide +kernel)) (pi_enumK (K := K) rfl (by rfl) T.b_enumerate (pa_cons (pv 2) pa_nil)) (blkOk_by (own := [("at", 3), ("weight", 10)]) (N := N_levelled_parts) (sc := defScope s_levelled_parts) (by decide +kernel)) (fun _ _ _ _ _ => (pg_tup (by rfl) (pgs_cons (pg_name (i := 3) sc_levelled_parts.nd rfl (Or.inl rfl)) (pgs_cons (pg_name (i := 10) sc_levelled_parts.nd rfl (Or.inl rfl)) pgs_nil)))) (fun _ _ _ _ _ => (pts_one (pt_cmpR op_gt (pv 10) pe_int (nomark _)))) (fun _ _ _ _ _ => (pv 3)))
      (pss_cons (ps_set (i := 5) sc_levelled_parts.nd rfl (Or.inl rfl) (pe_callTy (call_listK (K := K) rfl) (by rfl) T.b_list (by decide +kernel) (pa_cons (pv 1) pa_nil)))
      (pss_cons (ps_if (PW.pt (pw_or (pt_cmpR (op_eqIsK (K := K) hr.units rfl) (pv 4) (pe_lstA pa_nil) (nomark _)) (pw_or1 (pt_cmpR op_ge (pe_callB (cr_sumK (K := K) rfl rfl) (by rfl) T.b_sum (by decide +kernel) (pa_cons (pv 1) pa_nil)) (pv 0) (nomark _)))))
      (pss_one (ps_ret (pe_tupA (pa_cons pe_non (pa_cons (pv 5) pa_nil)))))
      pss_nil)
      (pss_cons (ps_aug (i := 0) sc_levelled_parts.nd rfl (Or.inr rfl) (pe_callB (cr_sumK (K := K) rfl rfl) (by rfl) T.b_sum (by decide +kernel) (pa_cons (pe_lc (own := [("floor", 11), ("weight", 10)]) (g := gTup K 2 (gCons (gName 11) (gCons (gName 10) gNil))) (by rfl) sc_levelled_parts.nd (pi_zipK (K := K) rfl (by rfl) T.b_zip (pa_cons (pv 1) (pa_cons (pv 2) pa_nil))) (blkOk_by (own := [("floor", 11), ("weight", 10)]) (N := N_levelled_parts) (sc := defScope s_levelled_parts) (by decide +kernel)) (fun _ _ _ _ _ => (pg_tup (by rfl) (pgs_cons (pg_name (i := 11) sc_levelled_parts.nd rfl (Or.inl rfl)) (pgs_cons (pg_name (i := 10) sc_levelled_parts.nd rfl (Or.inl rfl)) pgs_nil)))) (fun _ _ _ _ _ => (pts_one (pt_cmpR op_eq (pv 10) pe_int (nomark _)))) (fun _ _ _ _ _ => (pv 11))) pa_nil)) ip_sub)
      (pss_cons (ps_set (i := 6) sc_levelled_parts.nd rfl (Or.inr rfl) (pv 4))
      (pss_cons (ps_while PassesOwn.never (pt_cmpR (op_neIsK (K := K) hr.units rfl) (pv 6) (pe_lstA pa_nil) (nomark _))
      (pss_cons (ps_set (i := 7) sc_levelled_parts.nd rfl (Or.inr rfl) (pe_callB (cr_sumK (K := K) rfl rfl) (by rfl) T.b_sum (by decide +kernel) (pa_cons (pe_lc (own := [("at", 3)]) (g := gName 3) (by rfl) sc_levelled_parts.nd (pi_listK (K := K) rfl (pv 4)) (blkOk_by (own := [("at", 3)]) (N := N_levelled_parts) (sc := defScope s_levelled_parts) (by decide +kernel)) (fun _ _ _ _ _ => (pg_name (i := 3) sc_levelled_parts.nd rfl (Or.inl rfl))) (fun _ _ _ _ _ => pts_nil) (fun _ _ _ _ _ => (pe_ix (ix_listK (K := K) rfl) (pv 2) (pv 3) (fun _ _ => rfl)))) pa_nil)))
      (pss_cons (ps_set (i := 6) sc_levelled_parts.nd rfl (Or.inr rfl) (pe_lc (own := [("at", 3)]) (g := gName 3) (by rfl) sc_levelled_parts.nd (pi_listK (K := K) rfl (pv 4)) (blkOk_by (own := [("at", 3)]) (N := N_levelled_parts) (sc := defScope s_levelled_parts) (by decide +kernel)) (fun _ _ _ _ _ => (pg_name (i := 3) sc_levelled_parts.nd rfl (Or.inl rfl))) (fun _ _ _ _ _ => (pts_one (pt_cmpR op_ge (pe_op op_mul (pe_ix (ix_listK (K := K) rfl) (pv 1) (pv 3) (fun _ _ => rfl)) (pv 7)) (pe_op op_mul (pv 0) (pe_ix (ix_listK (K := K) rfl) (pv 2) (pv 3) (fun _ _ => rfl))) (nomark _)))) (fun _ _ _ _ _ => (pv 3))))
      (pss_cons (ps_setLc (i := 4) (own := [("at", 3)]) (g := gName 3) (by rfl) sc_levelled_parts.nd rfl rfl (sw_true rfl rfl rfl (by decide +kernel)) (pi_listK (K := K) rfl (pv 4)) (blkOk_by (own := [("at", 3)]) (N := N_levelled_parts) (sc := defScope s_levelled_parts) (by decide +kernel)) (fun _ _ _ _ _ => (pg_name (i := 3) sc_levelled_parts.nd rfl (Or.inl rfl))) (fun _ _ _ _ _ => (pts_one (pt_cmpR (op_notInK (K := K) rfl) (pv 3) (pv 6) (by rfl)))) (fun _ _ _ _ _ => (pv 3)))
      (pss_one (ps_aug (i := 0) sc_levelled_parts.nd rfl (Or.inr rfl) (pe_callB (cr_sumK (K := K) rfl rfl) (by rfl) T.b_sum (by decide +kernel) (pa_cons (pe_lc (own := [("at", 3)]) (g := gName 3) (by rfl) sc_levelled_parts.nd (pi_listK (K := K) rfl (pv 6)) (blkOk_by (own := [("at", 3)]) (N := N_levelled_parts) (sc := defScope s_levelled_parts) (by decide +kernel)) (fun _ _ _ _ _ => (pg_name (i := 3) sc_levelled_parts.nd rfl (Or.inl rfl))) (fun _ _ _ _ _ => pts_nil) (fun _ _ _ _ _ => (pe_ix (ix_listK (K := K) rfl) (pv 1) (pv 3) (fun _ _ => rfl)))) pa_nil)) ip_sub))))))
      (pss_cons (ps_set (i := 8) sc_levelled_parts.nd rfl (Or.inl rfl) (pe_call (ok_lowest T) (hr.mono (by decide)) (by rfl) T.d_lowest.g T.d_lowest.F.kp T.d_lowest.b .nil pass0 (pa_cons (pv 0) (pa_cons (pv 7) pa_nil))))
      (pss_cons (ps_for PassesOwn.never (by rfl) (pi_itemsN (pe_call (ok_running T) (hr.mono (by decide)) (by rfl) T.d_running.g T.d_running.F.kp T.d_running.b .nil pass0 (pa_cons (pv 8) (pa_cons (pv 2) (pa_cons (pv 4) pa_nil))))) (pg_tup (by rfl) (pgs_cons (pg_name (i := 3) sc_levelled_parts.nd rfl (Or.inl rfl)) (pgs_cons (pg_name (i := 9) sc_levelled_parts.nd rfl (Or.inl rfl)) pgs_nil)))
      (pss_one (ps_asg (pv 9) (pg_sub (pv 5) (pv 3) set_listA))))
      (pss_one (ps_ret (pe_tupA (pa_cons (pv 8) (pa_cons (pv 5) pa_nil))))))))))))), ?_⟩
    -- rest = [at for at, weight in enumerate(weights) if weight > 0]
    refine ⟨_, rfl, W, _, rfl, sqL hW, fun D hD => lcEq (K := K) (xs := ws.map V.int) (fun i => if decide (0 < wAt ws i) = true then some (.int (i : Int)) else none) hD (sqL hW) (by rw [List.length_map]; omega) (fun i x T H2 Kt Kf hx s2 gT q => ?_) (fun H2 s2 g2 => ?_)⟩
    · have hi : i < ws.length := by have := (List.getElem?_eq_some_iff.mp hx).1; rw [List.length_map] at this; exact this
      have ex : x = V.int (wAt ws i) := Option.some.inj (hx.symm.trans (int_at hi))
      subst ex
      refine ⟨_, _, rfl, sqT gT, rfl, _, _, rfl, _, _, rfl, rfl, rfl, _, rfl, _, _, rfl, rfl, _, rfl, ite2 (fun e => ?_) (fun e => ?_)⟩
      · refine ⟨_, rfl, q.yes _ _ (Same.refl _) ?_⟩
        rw [if_pos e]
      · refine q.no _ (Same.refl _) ?_
        rw [if_neg e]
    rw [List.length_map, lcYs_range ws.length (fun i => decide (0 < wAt ws i)) _ (fun i _ => rfl)] at g2
    generalize hR0 : (List.range ws.length).filter (fun i => decide (0 < wAt ws i)) = R0 at g2
    -- found = list(floors)
    tm_at "rzs"
    refine ⟨C, _, rfl, .inl (sqL (s2 _ _ hC)), fun F H3 n3 s3 g3 => ?_⟩
    tm_at "rzs"
    intro E4 H4 n4 s4 g4
    have gD4 := s4 _ _ (s3 _ _ g2)
    refine ⟨D, E4, natI R0, [], rfl, rfl, by rw [natsV_eq]; exact sqL gD4, sqL g4, ?_⟩
    tm_at "rzs"
    have s24 := (s2.trans s3).trans s4
    have nF : H F = none := s2.free n3
    have gF4 := s4 _ _ g3
    have Sfl : S (wAt fl) (List.range ws.length) = fl.sum := by rw [← hlen]; exact S_range fl
    have at0 : ∀ i, i < ws.length → fl[i]? = some (wAt fl i) := fun i hi => by
      unfold wAt
      rw [List.getD_eq_getElem?_getD, List.getElem?_eq_getElem (by omega)]; rfl
    have done : (S (wAt ws) (List.range ws.length) = 0 ∨ total ≤ S (wAt fl) (List.range ws.length)) → ∀ p H', Same H4 H' → H4 p = none → H' p = some (.tup [.non, .ref F]) → Q (.ref p) H' := fun hz p H' s np g => k p F none .non fl H' (s24.trans s) (s24.free np) nF g (s _ _ gF4) rfl (fun t b e => by cases e) ⟨hlen, fun _ => ⟨at0, hz⟩, fun t b e => by cases e⟩
    by_cases hR0n : R0 = []
    · have hz : S (wAt ws) (List.range ws.length) = 0 := by
        have h1 : S (wAt ws) (List.range ws.length) = S (fun _ => 0 * 0) (List.range ws.length) := S_congr fun i hi => by
          have hi' := List.mem_range.mp hi
          rw [hR0n] at hR0
          have h2 := List.filter_eq_nil_iff.mp hR0 i hi
          have h3 : ¬ 0 < wAt ws i := fun h => h2 (decide_eq_true h)
          have := (wp i hi').1
          omega
        rw [h1, S_mul, Int.zero_mul]
      refine iteT' (decide_eq_true (natI_nil.mpr hR0n)) ?_
      tm_at "rzs"
      intro p H5 n5 s5 g5
      exact done (.inl hz) p H5 s5 n5 g5
    refine iteF' (decide_eq_false fun e => hR0n (natI_nil.mp e)) ?_
    tm_at "rzs"
    refine ⟨C, fl, rfl, sqL (s24 _ _ hC), ?_⟩
    tm_at "rzs"
    by_cases hge : total ≤ fl.sum
    · refine iteT' (decide_eq_true hge) ?_
      tm_at "rzs"
      intro p H5 n5 s5 g5
      exact done (.inr (by rw [Sfl]; exact hge)) p H5 s5 n5 g5
    refine iteF' (decide_eq_false hge) ?_
    have hno : ¬ (S (wAt ws) (List.range ws.length) = 0 ∨ total ≤ S (wAt fl) (List.range ws.length)) := by
      rintro (h | h)
      · have h1 := S_split (wAt ws) (fun i => decide (0 < wAt ws i)) (List.range ws.length)
        rw [hR0] at h1
        have h2 : 0 < S (wAt ws) R0 := S_pos (fun i hi => by rw [← hR0] at hi; exact of_decide_eq_true (List.mem_filter.mp hi).2) hR0n
        have h3 : 0 ≤ S (wAt ws) ((List.range ws.length).filter fun i => !decide (0 < wAt ws i)) := S_nonneg fun i hi => (wp i (List.mem_range.mp (List.mem_filter.mp hi).1)).1
        omega
      · rw [Sfl] at h; omega
    have hst := LI.start (n := ws.length) (w := wAt ws) (fl := wAt fl) (total := total) (fun i hi => (wp i hi).1) (by rw [hR0]; exact hR0n) (by rw [Sfl]; omega)
    tm_at "rzs"
    refine ⟨C, W, _, _, rfl, sqL (s24 _ _ hC), sqL (s24 _ _ hW), fun D5 hD5 => lcZq (K := K) (xs := fl.map V.int) (zs := ws.map V.int) (fun i => if decide (wAt ws i = 0) = true then some (.int (wAt fl i)) else none) (by rw [List.length_map, List.length_map, hlen]) hD5 (sqL (s24 _ _ hC)) (sqL (s24 _ _ hW)) (by rw [List.length_map]; omega) (fun i x z T H6 Kt Kf hx hz s6 gT qq => ?_) (fun H6 s6 g6 => ?_)⟩
    · have hi : i < ws.length := by
        have := (List.getElem?_eq_some_iff.mp hz).1
        rw [List.length_map] at this; exact this
      rw [int_at hi] at hz
      rw [int_at (by omega)] at hx
      cases hz
      cases hx
      refine ⟨_, _, rfl, sqT gT, rfl, ?_⟩
      tm_at "rzs"
      refine ite2 (fun e => ?_) (fun e => ?_)
      · tm_at "rzs"
        exact qq.yes _ _ (Same.refl _) (if_pos (decide_eq_true (V.int.inj (of_decide_eq_true e))))
      · exact qq.no _ (Same.refl _) (if_neg fun h => e (decide_eq_true (by rw [of_decide_eq_true h])))
    have e6 : lcYs (fl.map V.int).length (fun i => if decide (wAt ws i = 0) = true then some (V.int (wAt fl i)) else none) = (((List.range ws.length).filter fun i => decide (wAt ws i = 0)).map (wAt fl)).map V.int := by
      have := lcYs_filter (fun i => decide (wAt ws i = 0)) (fun i => V.int (wAt fl i)) (List.range ws.length) (fun i => if decide (wAt ws i = 0) = true then some (V.int (wAt fl i)) else none) (fun i x hx => by
        have hi : i < ws.length := by have := (List.getElem?_eq_some_iff.mp hx).1; rw [List.length_range] at this; exact this
        rw [List.getElem?_range hi] at hx
        cases hx; rfl)
      rw [List.length_range] at this
      rw [List.length_map, hlen, this, List.map_map]; rfl
    rw [e6] at g6
    tm_at "rzs"
    refine ⟨D5, _, rfl, sqL g6, ?_⟩
    have eS0 : (((List.range ws.length).filter fun i => decide (wAt ws i = 0)).map (wAt fl)).sum = S (wAt fl) ((List.range ws.length).filter fun i => decide (wAt ws i = 0)) := rfl
    rw [eS0]
    obtain ⟨TT, hTT⟩ : ∃ TT, TT = total - S (wAt fl) ((List.range ws.length).filter fun i => decide (wAt ws i = 0)) := ⟨_, rfl⟩
    have hT0 : TT ≤ total := by
      have : 0 ≤ S (wAt fl) ((List.range ws.length).filter fun i => decide (wAt ws i = 0)) := S_nonneg fun i hi => fp i (List.mem_range.mp (List.mem_filter.mp hi).1)
      omega
    rw [← hTT] at hst
    have gD6 := s6 _ _ gD4
    tm_at "rzs"
    refine ⟨fun m σ H' => ∃ (p : Nat → Bool) (T : Int) (hs : List Nat) (R Hi : Addr) (v3 v7 v8 v9 v10 v11 : Option V), σ = [some (.int T), some (.ref C), some (.ref W), v3, some (.ref R), some (.ref F), some (.ref Hi), v7, v8, v9, v10, v11] ∧ Same H H' ∧
        H' R = some (.lst (natsV ((List.range ws.length).filter p))) ∧ H' Hi = some (.lst (natsV hs)) ∧ H' F = some (.lst (fl.map V.int)) ∧ LI ws.length (wAt ws) (wAt fl) total p T ∧ T ≤ total ∧
        (hs = [] → v7 = some (.int (S (wAt ws) ((List.range ws.length).filter p))) ∧ ((List.range ws.length).filter p).filter (highB T (S (wAt ws) ((List.range ws.length).filter p)) (wAt ws) (wAt fl)) = []) ∧
        m = 2 * ((List.range ws.length).filter p).length + (if hs = [] then 0 else 1),
      ⟨_, (fun i => decide (0 < wAt ws i)), TT, R0, D, D, none, none, none, none, none, none, by rw [hTT]; rfl, s24.trans s6, by rw [hR0]; exact gD6, gD6, s6 _ _ gF4, hst, hT0, fun e => absurd e hR0n, rfl⟩, ?_⟩
    rintro m σ H7 ⟨p, T, hs, R, Hi, v3, v7, v8, v9, v10, v11, rfl, s7, gR, gHi, gF, li, hT, hhs, rfl⟩
    have F0 : 0 ≤ S (wAt fl) ((List.range ws.length).filter p) := S_nonneg fun i hi => fp i (List.mem_range.mp (List.mem_filter.mp hi).1)
    have Tn := li.lt
    have hnd : ((List.range ws.length).filter p).Nodup := List.Pairwise.filter _ List.nodup_range
    have hWp := li.W0
    have hne := li.ne
    generalize hrest : (List.range ws.length).filter p = rest at *
    have hin : ∀ i ∈ rest, i < ws.length ∧ p i = true := fun i hi => by
      rw [← hrest] at hi
      exact ⟨List.mem_range.mp (List.mem_filter.mp hi).1, (List.mem_filter.mp hi).2⟩
    have hrl : rest.length ≤ ws.length := by
      rw [← hrest]
      have := List.length_filter_le p (List.range ws.length)
      rw [List.length_range] at this
      exact this
    have hWb : S (wAt ws) rest ≤ 2 ^ 48 * 1000 := by
      have h1 := S_bound (f := wAt ws) (c := 2 ^ 48) (R := rest) fun i hi => Int.le_of_lt (wp i (hin i hi).1).2
      omega
    refine ⟨_, rfl, Nat.zero_le _, fun E0 H8 n8 s8 g8 => ⟨Hi, E0, natI hs, [], rfl, rfl, by rw [natsV_eq]; exact sqL (s8 _ _ gHi), sqL g8, _, rfl, ?_⟩⟩
    have s18 : Same H H8 := s7.trans s8
    have gR8 := s8 _ _ gR
    by_cases hhe : hs = []
    · -- nobody is high: the level
      obtain ⟨rfl, hfil⟩ := hhs hhe
      refine iteF' (by rw [decide_eq_true (natI_nil.mpr hhe)]; rfl) ?_
      generalize hWW : S (wAt ws) rest = Wh at *
      have hg0 : 0 < Int.gcd T Wh := Int.gcd_pos_of_ne_zero_right _ (by omega)
      tm_at "rds"
      intro Lv H10 n10 s10 g10
      have eT : T = T / (Int.gcd T Wh : Int) * (Int.gcd T Wh : Int) := (Int.ediv_mul_cancel (Int.gcd_dvd_left ..)).symm
      have eWh : Wh = Wh / (Int.gcd T Wh : Int) * (Int.gcd T Wh : Int) := (Int.ediv_mul_cancel (Int.gcd_dvd_right ..)).symm
      have hcop : Int.gcd (T / (Int.gcd T Wh : Int)) (Wh / (Int.gcd T Wh : Int)) = 1 := Int.gcd_ediv_gcd_ediv_gcd hg0
      have t0 : 0 ≤ T / (Int.gcd T Wh : Int) := Int.ediv_nonneg (by omega) (by omega)
      have t1 : T / (Int.gcd T Wh : Int) ≤ T := Int.ediv_le_self _ (by omega)
      have b1 : Wh / (Int.gcd T Wh : Int) ≤ Wh := Int.ediv_le_self _ (by omega)
      generalize T / (Int.gcd T Wh : Int) = tt at *
      generalize Wh / (Int.gcd T Wh : Int) = bb at *
      have hgi : (0 : Int) < (Int.gcd T Wh : Int) := by omega
      have b0 : 0 < bb := Int.pos_of_mul_pos_right (by rw [Int.mul_comm, ← eWh]; exact hWp) hgi
      have dfin : Lev ws.length (wAt ws) (wAt fl) total (some (tt, bb)) (putAll fl (runD tt bb (wAt ws) rest 0)) := by
        have := li.fin fp (fun i hi => (wp i hi).1) Wh (by rw [hrest]; exact hWW.symm) (by rw [hrest]; exact hfil) eT eWh hgi hcop fl hlen at0 hno
        rw [hrest] at this
        exact this
      tm_at "rds"
      refine ⟨Lv, W, R, tt, bb, ws, rest, rfl, sqT g10, sqL (s10 _ _ (s18 _ _ hW)), sqL (s10 _ _ gR8), t0, by omega, b0, by omega, fun i hi => (hin i hi).1, hnd, by omega, fun d H11 s11 n11 g11 => ?_⟩
      have sHH : Same H H11 := (s18.trans s10).trans s11
      have gF10 : H10 F = some (.lst (fl.map V.int)) := s10 _ _ (s8 _ _ gF)
      have gF11 : H11 F = some (.lst (fl.map V.int)) := s11 _ _ gF10
      have hFd : F ≠ d := ne_of_none gF10 n11
      have gL11 := s11 _ _ g10
      have hLd : Lv ≠ d := ne_of_none g10 n11
      have nd : H d = none := (s18.trans s10).free n11
      have hLF : Lv ≠ F := (ne_of_none (s8 _ _ gF) n10).symm
      refine ⟨d, _, rfl, g11, fun o H12 b12 g12 => for_items (d := d) (o := o) (kvs := runK tt bb ws rest) (fun i σ H' => ∃ u3 u9 : Option V, σ = [some (.int T), some (.ref C), some (.ref W), u3, some (.ref R), some (.ref F), some (.ref Hi), some (.int Wh), some (.ref Lv), u9, v10, v11] ∧
          Same H H' ∧ H' d = some (.frz o (.dK (runK tt bb ws rest))) ∧ H' F = some (.lst ((putAll fl ((runD tt bb (wAt ws) rest 0).take i)).map V.int)) ∧ H' Lv = some (.tup [.int tt, .int bb]))
        ⟨_, _, rfl, Same.mut' sHH b12 nd, g12, b12 _ _ hFd gF11, b12 _ _ hLd gL11⟩ (fun i σ H' ⟨_, _, _, _, q, _⟩ => q) ?_ ?_⟩
      · rintro i kk vv T0' σ H13 H14 hkv ⟨u3, u9, rfl, s13, g13, gF13, gL13⟩ nT sT gT
        obtain ⟨q, hq, eq⟩ : ∃ q, (runD tt bb (wAt ws) rest 0)[i]? = some q ∧ (kk, vv) = (Sum.inl (q.1 : Int), V.int q.2) := by
          unfold runK at hkv
          rw [List.getElem?_map] at hkv
          cases e : (runD tt bb (wAt ws) rest 0)[i]? with
          | none => rw [e] at hkv; cases hkv
          | some q => rw [e] at hkv; exact ⟨q, rfl, (Option.some.inj hkv).symm⟩
        obtain ⟨rfl, rfl⟩ := Prod.mk.inj eq
        have hq1 : q.1 < fl.length := by
          have hm : q.1 ∈ (runD tt bb (wAt ws) rest 0).map (·.1) := List.mem_map.mpr ⟨q, List.mem_of_getElem? hq, rfl⟩
          rw [runD_fst] at hm
          rw [hlen]
          exact (hin _ hm).1
        refine ⟨_, _, rfl, sqT gT, rfl, _, _, rfl, _, _, rfl, rfl, ?_⟩
        refine ⟨_, rfl, _, rfl, _, rfl, F, _, _, q.1, rfl, rfl, sT _ _ gF13, ixN_nat (by rw [List.length_map, putAll_len]; exact hq1), fun H15 b15 g15 => ?_⟩
        refine ⟨_, _, rfl, Same.mut' (s13.trans sT) b15 nF, b15 _ _ hFd.symm (sT _ _ g13), ?_, b15 _ _ hLF (sT _ _ gL13)⟩
        rw [g15, putAll_take hq, map_set V.int]
      · rintro σ H13 ⟨u3, u9, rfl, s13, g13, gF13, gL13⟩
        rw [List.take_of_length_le (by unfold runK; rw [List.length_map]; exact Nat.le_refl _)] at gF13
        tm_at "rds"
        intro P H14 n14 s14 g14
        exact k P F (some (tt, bb)) (.ref Lv) _ H14 (s13.trans s14) (s13.free n14) nF g14 (s14 _ _ gF13) ⟨Lv, rfl, s14 _ _ gL13⟩ (fun t b e => by cases e; exact ⟨by omega, by omega⟩) dfin
    -- one more turn
    refine iteT' (by rw [decide_eq_false (fun z => hhe (natI_nil.mp z))]; rfl) ?_
    refine ⟨_, fun _ _ h => h, ?_⟩
    have hC8 := s18 _ _ hC
    have hW8 := s18 _ _ hW
    -- whole
    tm_at "rzs"
    refine ⟨⟨_, sqL gR8⟩, fun D9 hD9 => lcLq (K := K) (xs := natsV rest) (fun i => some (.int (wAt ws (rest.getD i 0)))) hD9 (sqL gR8) (by rw [List.length_map]; omega) (fun i x H9 Kt Kf hx s9 q => ?_) (fun H9 s9 g9 => ?_)⟩
    · obtain ⟨c, hc, rfl⟩ := nat_of_map hx
      have hcl := (hin c (List.mem_of_getElem? hc)).1
      tm_at "rzs"
      refine ⟨_, _, _, _, rfl, rfl, sqL (s9 _ _ hW8), atI_nat (int_at hcl), q.yes _ _ (Same.refl _) ?_⟩
      show some (V.int (wAt ws (rest.getD i 0))) = some (V.int (wAt ws c))
      rw [List.getD_eq_getElem?_getD, hc]; rfl
    have e9 : lcYs (natsV rest).length (fun i => some (V.int (wAt ws (rest.getD i 0)))) = (rest.map (wAt ws)).map V.int := by
      rw [List.length_map, lcYs_map (fun i : Nat => V.int (wAt ws i)) rest _ (fun i x hx => by rw [List.getD_eq_getElem?_getD, hx]; rfl), List.map_map]
      rfl
    rw [e9] at g9
    tm_at "rzs"
    refine ⟨_, _, rfl, sqL g9, ?_⟩
    have eW : (rest.map (wAt ws)).sum = S (wAt ws) rest := rfl
    rw [eW]
    clear hhs
    generalize hWW : S (wAt ws) rest = Wh at *
    have s19 : Same H H9 := s18.trans s9
    have gR9 := s9 _ _ gR8
    -- high
    tm_at "rzs"
    refine ⟨⟨_, sqL gR9⟩, fun D10 hD10 => lcLq (K := K) (xs := natsV rest) (fun i => if highB T Wh (wAt ws) (wAt fl) (rest.getD i 0) = true then some (.int (rest.getD i 0 : Nat)) else none) hD10 (sqL gR9) (by rw [List.length_map]; omega) (fun i x H10 Kt Kf hx s10 q => ?_) (fun H10 s10 g10 => ?_)⟩
    · obtain ⟨c, hc, rfl⟩ := nat_of_map hx
      have hcl := (hin c (List.mem_of_getElem? hc)).1
      have ed : rest.getD i 0 = c := by rw [List.getD_eq_getElem?_getD, hc]; rfl
      have sC := sqL (K := K) (s10 _ _ (s19 _ _ hC))
      have sW := sqL (K := K) (s10 _ _ (s19 _ _ hW))
      tm_at "rzs"
      refine ⟨_, _, _, _, rfl, rfl, sC, atI_nat (int_at (by omega)), ?_⟩
      tm_at "rzs"
      refine ⟨_, _, _, _, rfl, rfl, sW, atI_nat (int_at hcl), ?_⟩
      tm_at "rzs"
      refine ite2 (fun e => ?_) (fun e => ?_)
      · tm_at "rzs"
        refine q.yes _ _ (Same.refl _) ?_
        show (if highB T Wh (wAt ws) (wAt fl) (rest.getD i 0) = true then _ else _) = _
        rw [ed]
        exact if_pos e
      · refine q.no _ (Same.refl _) ?_
        show (if highB T Wh (wAt ws) (wAt fl) (rest.getD i 0) = true then _ else _) = none
        rw [ed]
        exact if_neg e
    have e10 : lcYs (natsV rest).length (fun i => if highB T Wh (wAt ws) (wAt fl) (rest.getD i 0) = true then some (V.int (rest.getD i 0 : Nat)) else none) = natsV (rest.filter (highB T Wh (wAt ws) (wAt fl))) := by
      rw [List.length_map, lcYs_filter (highB T Wh (wAt ws) (wAt fl)) (fun i : Nat => V.int (i : Int)) rest _ (fun i x hx => by rw [List.getD_eq_getElem?_getD, hx]; rfl)]
    rw [e10] at g10
    have lturn := li.turn fp Wh (by rw [hrest]; exact hWW.symm) (rest.filter (highB T Wh (wAt ws) (wAt fl))) (by rw [hrest])
    have efilt : (List.range ws.length).filter (fun i => p i && !highB T Wh (wAt ws) (wAt fl) i) = rest.filter fun i => !decide (i ∈ rest.filter (highB T Wh (wAt ws) (wAt fl))) := by
      rw [← filter_not_mem, hrest]
    have hgen : ∀ i ∈ rest.filter (highB T Wh (wAt ws) (wAt fl)), i ∈ rest := fun i hi => (List.mem_filter.mp hi).1
    have hself : rest.filter (highB T Wh (wAt ws) (wAt fl)) = [] → rest.filter (highB T Wh (wAt ws) (wAt fl)) = [] := id
    generalize hhi : rest.filter (highB T Wh (wAt ws) (wAt fl)) = high at g10 lturn efilt hgen
    have hhl : high.length ≤ ws.length := by
      rw [← hhi]
      exact Nat.le_trans (List.length_filter_le _ _) hrl
    have gR10 := s10 _ _ gR9
    -- rest
    tm_at "rzs"
    refine ⟨⟨_, sqL gR10⟩, fun D11 hD11 => lcLq (K := K) (xs := natsV rest) (fun i => if (!decide (rest.getD i 0 ∈ high)) = true then some (.int (rest.getD i 0 : Nat)) else none) hD11 (sqL gR10) (by rw [List.length_map]; omega) (fun i x H11 Kt Kf hx s11 q => ?_) (fun H11 s11 g11 => ?_)⟩
    · obtain ⟨c, hc, rfl⟩ := nat_of_map hx
      have ed : rest.getD i 0 = c := by rw [List.getD_eq_getElem?_getD, hc]; rfl
      tm_at "rzs"
      refine ⟨_, _, rfl, .inl (sqL (s11 _ _ g10)), rfl, flat_nats high, _, rfl, ?_⟩
      rw [inV_nats]
      refine ite2 (fun e => ?_) (fun e => ?_)
      · refine ⟨_, rfl, q.yes _ _ (Same.refl _) ?_⟩
        show (if (!decide (rest.getD i 0 ∈ high)) = true then _ else _) = _
        have e' : (!decide (c ∈ high)) = true := e
        rw [ed, if_pos e']
      · refine q.no _ (Same.refl _) ?_
        have e' : ¬ (!decide (c ∈ high)) = true := e
        show (if (!decide (rest.getD i 0 ∈ high)) = true then _ else _) = none
        rw [ed, if_neg e']
    have e11 : lcYs (natsV rest).length (fun i => if (!decide (rest.getD i 0 ∈ high)) = true then some (V.int (rest.getD i 0 : Nat)) else none) = natsV ((List.range ws.length).filter fun i => p i && !highB T Wh (wAt ws) (wAt fl) i) := by
      rw [List.length_map, lcYs_filter (fun i : Nat => !decide (i ∈ high)) (fun i : Nat => V.int (i : Int)) rest _ (fun i x hx => by rw [List.getD_eq_getElem?_getD, hx]; rfl), efilt]
    rw [e11] at g11
    have gH11 := s11 _ _ g10
    have s21 : Same H H11 := (s19.trans s10).trans s11
    -- total -= sum
    tm_at "rzs"
    refine ⟨⟨_, sqL gH11⟩, fun D12 hD12 => lcLq (K := K) (xs := natsV high) (fun i => some (.int (wAt fl (high.getD i 0)))) hD12 (sqL gH11) (by rw [List.length_map]; omega) (fun i x H12 Kt Kf hx s12 q => ?_) (fun H12 s12 g12 => ?_)⟩
    · obtain ⟨c, hc, rfl⟩ := nat_of_map hx
      have hcl := (hin c (hgen c (List.mem_of_getElem? hc))).1
      tm_at "rzs"
      refine ⟨_, _, _, _, rfl, rfl, sqL (s12 _ _ (s21 _ _ hC)), atI_nat (int_at (by omega)), q.yes _ _ (Same.refl _) ?_⟩
      show some (V.int (wAt fl (high.getD i 0))) = some (V.int (wAt fl c))
      rw [List.getD_eq_getElem?_getD, hc]; rfl
    have e12 : lcYs (natsV high).length (fun i => some (V.int (wAt fl (high.getD i 0)))) = (high.map (wAt fl)).map V.int := by
      rw [List.length_map, lcYs_map (fun i : Nat => V.int (wAt fl i)) high _ (fun i x hx => by rw [List.getD_eq_getElem?_getD, hx]; rfl), List.map_map]
      rfl
    rw [e12] at g12
    tm_at "rzs"
    refine ⟨_, _, rfl, sqL g12, ?_⟩
    have eF : (high.map (wAt fl)).sum = S (wAt fl) high := rfl
    rw [eF]
    have hS : 0 ≤ S (wAt fl) high := S_nonneg fun i hi => fp i (hin i (hgen i hi)).1
    tm_at "rzs"
    refine ⟨2 * ((List.range ws.length).filter fun i => p i && !highB T Wh (wAt ws) (wAt fl) i).length + (if high = [] then 0 else 1), ?_, (fun i => p i && !highB T Wh (wAt ws) (wAt fl) i), T - S (wAt fl) high, high, D11, D10, v3, some (.int Wh), v8, v9, v10, v11, rfl, s21.trans s12, s12 _ _ g11, s12 _ _ gH11, s12 _ _ (s11 _ _ (s10 _ _ (s9 _ _ (s8 _ _ gF)))), lturn, by omega, fun eh => ?_, rfl⟩
    · rw [if_neg hhe, efilt]
      by_cases eh : high = []
      · rw [if_pos eh, eh]
        have e1 : (rest.filter fun i => !decide (i ∈ ([] : List Nat))) = rest := by simp
        rw [e1]; omega
      · rw [if_neg eh]
        obtain ⟨j, hj⟩ : ∃ j, j ∈ high := List.exists_mem_of_ne_nil high eh
        have := filter_lt (q := fun i => !decide (i ∈ high)) (hgen j hj) (by rw [decide_eq_true hj]; rfl)
        omega
    · have e1 : (List.range ws.length).filter (fun i => p i && !highB T Wh (wAt ws) (wAt fl) i) = rest := by rw [efilt, eh]; simp
      rw [e1, hWW, eh, S_nil, Int.sub_zero, hhi]
      exact ⟨rfl, eh⟩
end
end My
namespace My
open PySem PySem.Spec PyProof.Rows L2
section
variable {P : Program} {w : World} {K : PySem.W.Frag} {mg : Str → Option Value} {base : Heap}
def sp_dealt (K : PySem.W.Frag) : Sp := fun vs H Q _ => ∃ (C W : Addr) (total : Int) (cs : List (Option Int)) (ws : List Int), vs = [.int total, .ref C, .ref W] ∧ H C = some (.lst (cs.map optI)) ∧ H W = some (.lst (ws.map .int)) ∧
  cs.length = ws.length ∧ ws.length ≤ 1000 ∧ 0 ≤ total ∧ total < 2 ^ 64 ∧ (∀ z, some z ∈ cs → 0 ≤ z) ∧ (∀ z ∈ ws, 0 ≤ z ∧ z < 2 ^ 48) ∧
  ∀ p q lv lvv fs H', Same H H' → H p = none → H q = none → H' p = some (.tup [lvv, .ref q]) → H' q = some (.lst (fs.map .int)) → LvAt H' lv lvv → (∀ t b, lv = some (t, b) → t < 2 ^ 64 ∧ b < 2 ^ 64) → Dealt ws.length (wAt ws) (cAt cs) total lv fs → Q (.ref p) H'
theorem ok_dealt (T : Tx K mg) : FnOk P w K mg base CX0 4 T.d_dealt.f T.d_dealt.fd ["total", "caps", "weights"] (sp_dealt K) := by
  refine T.d_dealt.F.ok sc_dealt (fun vs H Q E h => ?_) (fun cdv A outer s H vs Q E hr h => ?_)
  · obtain ⟨C, W, total, cs, ws, rfl, _⟩ := h
    rfl
  · obtain ⟨C, W, total, cs, ws, rfl, hC, hW, hlen, hn, T0, T1, hc0, hw0, k⟩ := h
    refine ⟨_, (pss_cons (ps_expr (pe_call (ok_check_total T) (hr.mono (by decide)) (by rfl) T.d_check_total.g T.d_check_total.F.kp T.d_check_total.b .nil pass0 (pa_cons (pv 0) pa_nil)))
      (pss_cons (ps_if (PW.pt (pw_or (pt_not (pt_val (pe_callB is_list (by rfl) T.b_isinstance (by decide +kernel) (pa_cons (pv 1) (pa_cons (pe_bltn (v := .ty "list") (by rfl) T.b_list (by decide +kernel) rfl) pa_nil))))) (pw_or1 (pt_not (pt_val (pe_callB (cr_allK (K := K) rfl rfl) (by rfl) T.b_all (by decide +kernel) (pa_cons (pe_lc (own := [("cap", 3)]) (g := gName 3) (by rfl) sc_dealt.nd (pi_listK (K := K) rfl (pv 1)) (blkOk_by (own := [("cap", 3)]) (N := N_dealt) (sc := defScope s_dealt) (by decide +kernel)) (fun _ _ _ _ _ => (pg_name (i := 3) sc_dealt.nd rfl (Or.inl rfl))) (fun _ _ _ _ _ => pts_nil) (fun _ _ _ _ _ => (pe_or (pe_cmpR op_isN (pv 3) pe_non (nomark _)) (pe_one (pe_call (ok_is_from_nought T) (hr.mono (by decide)) (by rfl) T.d_is_from_nought.g T.d_is_from_nought.F.kp T.d_is_from_nought.b .nil pass0 (pa_cons (pv 3) pa_nil)))))) pa_nil)))))))
      (pss_one ps_never)
      pss_nil)
      (pss_cons (ps_expr (pe_call (ok_check_weights T) (hr.mono (by decide)) (by rfl) T.d_check_weights.g T.d_check_weights.F.kp T.d_check_weights.b .nil pass0 (pa_cons (pv 2) (pa_cons (pe_callB (call_lenK (K := K) rfl) (by rfl) T.b_len (by decide +kernel) (pa_cons (pv 1) pa_nil)) pa_nil))))
      (pss_one (ps_ret (pe_call (ok_dealt_parts T) (hr.mono (by decide)) (by rfl) T.d_dealt_parts.g T.d_dealt_parts.F.kp T.d_dealt_parts.b .nil pass0 (pa_cons (pv 0) (pa_cons (pv 1) (pa_cons (pv 2) pa_nil))))))))), ?_⟩
    tm_at "rds"
    refine ⟨⟨_, sqL hC⟩, fun D hD => lcLq (K := K) (xs := cs.map optI) (fun i => some (.bl true)) hD (sqL hC) (by rw [List.length_map]; omega) (fun i x H2 Kt Kf hx s2 q => ?_) (fun H2 s2 g2 => ?_)⟩
    · obtain ⟨z, hz, rfl⟩ : ∃ z, cs[i]? = some z ∧ x = optI z := by
        rw [List.getElem?_map] at hx
        cases e : cs[i]? with
        | none => rw [e] at hx; cases hx
        | some c => rw [e] at hx; exact ⟨c, rfl, (Option.some.inj hx).symm⟩
      cases z with
      | none =>
        tm_at "rds"
        exact q.yes _ _ (Same.refl _) rfl
      | some z =>
        tm_at "rds"
        refine ⟨_, _, rfl, Ty7.int z, ?_⟩
        tm_at "rds"
        refine q.yes _ _ (Same.refl _) ?_
        show some (V.bl true) = some (V.bl (decide (0 ≤ z)))
        rw [decide_eq_true (hc0 z (List.mem_of_getElem? hz))]
    · tm_at "rds"
      refine ⟨_, List.replicate cs.length true, rfl, ?_, ?_⟩
      · refine sqL (g2.trans ?_)
        rw [List.length_map, lcYs_const, List.map_replicate]
      · have e2 : (List.replicate cs.length true).all id = true := by simp
        rw [e2]
        have gC2 : H2 C = some (.lst (cs.map optI)) := s2 _ _ hC
        tm_at "rds"
        refine ⟨W, ws, ?_, s2 _ _ hW, hn, fun z hz => (hw0 z hz).1, fun H3 s3 => ?_⟩
        · rw [List.length_map, hlen]; rfl
        tm_at "rds"
        exact ⟨C, W, total, cs, ws, rfl, sqL (s3 _ _ gC2), sqL (s3 _ _ (s2 _ _ hW)), hlen, hn, T0, T1, hc0, hw0, fun p q lv lvv fs H' s np nq hp hq hl hb hd => k p q lv lvv fs H' ((s2.trans s3).trans s) ((s2.trans s3).free np) ((s2.trans s3).free nq) hp hq hl hb hd⟩
end
end My
namespace My
open PySem PySem.Spec PyProof.Rows L2
section
variable {P : Program} {w : World} {K : PySem.W.Frag} {mg : Str → Option Value} {base : Heap}
def sp_levelled (K : PySem.W.Frag) : Sp := fun vs H Q _ => ∃ (C W : Addr) (total : Int) (fl : List Int) (ws : List Int), vs = [.int total, .ref C, .ref W] ∧ H C = some (.lst (fl.map .int)) ∧ H W = some (.lst (ws.map .int)) ∧
  fl.length = ws.length ∧ ws.length ≤ 1000 ∧ 0 ≤ total ∧ total < 2 ^ 64 ∧ (∀ z ∈ fl, 0 ≤ z) ∧ (∀ z ∈ ws, 0 ≤ z ∧ z < 2 ^ 48) ∧
  ∀ p q lv lvv fs H', Same H H' → H p = none → H q = none → H' p = some (.tup [lvv, .ref q]) → H' q = some (.lst (fs.map .int)) → LvAt H' lv lvv → (∀ t b, lv = some (t, b) → t < 2 ^ 64 ∧ b < 2 ^ 64) → Lev ws.length (wAt ws) (wAt fl) total lv fs → Q (.ref p) H'
theorem ok_levelled (T : Tx K mg) : FnOk P w K mg base CX0 4 T.d_levelled.f T.d_levelled.fd ["total", "floors", "weights"] (sp_levelled K) := by
  refine T.d_levelled.F.ok sc_levelled (fun vs H Q E h => ?_) (fun cdv A outer s H vs Q E hr h => ?_)
  · obtain ⟨C, W, total, fl, ws, rfl, _⟩ := h
    rfl
  · obtain ⟨C, W, total, fl, ws, rfl, hC, hW, hlen, hn, T0, T1, hc0, hw0, k⟩ := h
    refine ⟨_, (pss_cons (ps_expr (pe_call (ok_check_total T) (hr.mono (by decide)) (by rfl) T.d_check_total.g T.d_check_total.F.kp T.d_check_total.b .nil pass0 (pa_cons (pv 0) pa_nil)))
      (pss_cons (ps_if (pt_not (pt_val (pe_callB is_list (by rfl) T.b_isinstance (by decide +kernel) (pa_cons (pv 1) (pa_cons (pe_bltn (v := .ty "list") (by rfl) T.b_list (by decide +kernel) rfl) pa_nil)))))
      (pss_one ps_never)
      pss_nil)
      (pss_cons (ps_expr (pe_call (ok_check_weights T) (hr.mono (by decide)) (by rfl) T.d_check_weights.g T.d_check_weights.F.kp T.d_check_weights.b .nil pass0 (pa_cons (pv 1) (pa_cons (pe_callB (call_lenK (K := K) rfl) (by rfl) T.b_len (by decide +kernel) (pa_cons (pv 1) pa_nil)) pa_nil))))
      (pss_cons (ps_expr (pe_call (ok_check_weights T) (hr.mono (by decide)) (by rfl) T.d_check_weights.g T.d_check_weights.F.kp T.d_check_weights.b .nil pass0 (pa_cons (pv 2) (pa_cons (pe_callB (call_lenK (K := K) rfl) (by rfl) T.b_len (by decide +kernel) (pa_cons (pv 1) pa_nil)) pa_nil))))
      (pss_one (ps_ret (pe_call (ok_levelled_parts T) (hr.mono (by decide)) (by rfl) T.d_levelled_parts.g T.d_levelled_parts.F.kp T.d_levelled_parts.b .nil pass0 (pa_cons (pv 0) (pa_cons (pv 1) (pa_cons (pv 2) pa_nil)))))))))), ?_⟩
    tm_at "rzs"
    refine ⟨C, fl, by rw [List.length_map]; rfl, hC, by omega, hc0, fun H1 s1 => ?_⟩
    have hC1 := s1 _ _ hC
    have hW1 := s1 _ _ hW
    tm_at "rzs"
    refine ⟨W, ws, by rw [List.length_map, hlen]; rfl, hW1, hn, fun z hz => (hw0 z hz).1, fun H2 s2 => ?_⟩
    tm_at "rzs"
    exact ⟨C, W, total, fl, ws, rfl, s2 _ _ hC1, s2 _ _ hW1, hlen, hn, T0, T1, hc0, hw0, fun p q lv lvv fs H' s np nq hp hq hl hb hd => k p q lv lvv fs H' ((s1.trans s2).trans s) ((s1.trans s2).free np) ((s1.trans s2).free nq) hp hq hl hb hd⟩
end
end My
namespace My
open PySem PySem.Spec PyProof.Rows L2
section
variable {P : Program} {w : World} {K : PySem.W.Frag} {mg : Str → Option Value} {base : Heap}
def sp_w_cell_at (K : PySem.W.Frag) : Sp := fun vs H Q _ => ∃ (a : Addr) (ns : List Int), vs = [.ref a, .int 0] ∧ SqL K H a (ns.map V.int) ∧ ns.length ≤ 63 ∧ Q (.int (ns.headD 0)) H
theorem ok_w_cell_at (T : Tx K mg) : FnOk P w K mg base CX0 1 T.d_w_cell_at.f T.d_w_cell_at.fd ["_law_script", "_law_k"] (sp_w_cell_at K) := by
  refine T.d_w_cell_at.F.ok sc_w_cell_at (fun vs H Q E h => ?_) (fun cdv A outer s H vs Q E hr h => ?_)
  · obtain ⟨x, t, rfl, _⟩ := h
    rfl
  · obtain ⟨a, ns, rfl, hS, hl, k⟩ := h
    refine ⟨_, (pss_cons (ps_if (pt_cmpR op_lt (pv 1) (pe_callB (call_lenK (K := K) rfl) (by rfl) T.b_len (by decide +kernel) (pa_cons (pv 0) pa_nil)) (nomark _))
      (pss_one (ps_ret (pe_ix (ix_seqK (K := K) rfl) (pv 0) (pv 1) (fun _ _ => rfl))))
      pss_nil)
      (pss_one (ps_ret pe_int))), ?_⟩
    refine ⟨_, rfl, _, rfl, _, _, rfl, .inl ⟨_, hS, rfl⟩, _, _, rfl, rfl, _, rfl, ite2 (fun e => ?_) (fun e => ?_)⟩
    · cases ns with
      | nil => simp at e
      | cons z r => exact ⟨_, rfl, _, rfl, .inl ⟨_, _, _, _, rfl, rfl, hS, atI_nat (j := 0) rfl, k⟩⟩
    · cases ns with
      | nil => exact k
      | cons z r => simp at e
end
end My
namespace My
open PySem PySem.Spec PyProof.Rows L2
section
variable {P : Program} {w : World} {K : PySem.W.Frag} {mg : Str → Option Value} {base : Heap}
def sp_w_mixed : Sp := fun vs H Q _ => ∃ (c k : Int), vs = [.int c, .int k] ∧ ∀ n : Int, 0 ≤ n → Q (.int n) H
theorem ok_w_mixed (T : Tx K mg) : FnOk P w K mg base CX0 1 T.d_w_mixed.f T.d_w_mixed.fd ["_law_cell", "_law_k"] (sp_w_mixed) := by
  refine T.d_w_mixed.F.ok sc_w_mixed (fun vs H Q E h => ?_) (fun cdv A outer s H vs Q E hr h => ?_)
  · obtain ⟨x, t, rfl, _⟩ := h
    rfl
  · obtain ⟨c, j, rfl, k⟩ := h
    refine ⟨_, (pss_cons (ps_set (i := 2) sc_w_mixed.nd rfl (Or.inl rfl) (pe_op op_add (pe_op op_mod (pv 0) pe_int) (pe_op op_mul (pe_op op_fdivW (pv 0) pe_int) pe_int)))
      (pss_cons (ps_set (i := 2) sc_w_mixed.nd rfl (Or.inl rfl) (pe_op op_mod (pe_op op_mul (pe_op op_add (pe_op op_add (pv 2) (pe_op op_mul pe_int (pv 1))) pe_int) pe_int) pe_int))
      (pss_cons (ps_set (i := 2) sc_w_mixed.nd rfl (Or.inl rfl) (pe_op op_mod (pe_op op_mul (pv 2) (pe_op op_add (pe_op op_add (pe_op op_fdivW (pv 2) pe_int) pe_int) (pv 1))) pe_int))
      (pss_one (ps_ret (pe_op op_mod (pe_op op_mul (pv 2) (pe_op op_add (pe_op op_fdivW (pv 2) pe_int) pe_int)) pe_int)))))), ?_⟩
    tm_at "rds"
    refine k _ ?_
    exact Int.emod_nonneg _ (by decide)
end
end My
namespace My
open PySem PySem.Spec PyProof.Rows L2
section
variable {P : Program} {w : World} {K : PySem.W.Frag} {mg : Str → Option Value} {base : Heap}
def sp_w_source : Sp := fun vs H Q _ => ∃ (c : Int), vs = [.int c] ∧ New H (src (c, c, 0)) Q
theorem ok_w_source (T : Tx K mg) : FnOk P w K mg base CX0 1 T.d_w_source.f T.d_w_source.fd ["_law_cell"] (sp_w_source) := by
  refine T.d_w_source.F.ok sc_w_source (fun vs H Q E h => ?_) (fun cdv A outer s H vs Q E hr h => ?_)
  · obtain ⟨x, rfl, _⟩ := h
    rfl
  · obtain ⟨c, rfl, k⟩ := h
    refine ⟨_, (pss_one (ps_ret (pe_lstA (pa_cons (pv 0) (pa_cons (pv 0) (pa_cons pe_int pa_nil)))))), ?_⟩
    refine ⟨_, rfl, _, rfl, (by show 3 ≤ sizeLine; decide), k⟩
end
end My
namespace My
open PySem PySem.Spec PyProof.Rows L2
section
variable {P : Program} {w : World} {K : PySem.W.Frag} {mg : Str → Option Value} {base : Heap}
def sp_w_next : Sp := fun vs H Q _ => ∃ (a : Addr) (m : Int), vs = [.ref a, .int m] ∧ Src H a ∧ 0 < m ∧ m < 2 ^ 64 ∧
  ∀ (n : Int) (H' : Hp), Dr a H H' → 0 ≤ n → n < m → Q (.int n) H'
theorem ok_w_next (T : Tx K mg) : FnOk P w K mg base CX0 2 T.d_w_next.f T.d_w_next.fd ["_law_source_here", "_law_many"] (sp_w_next) := by
  refine T.d_w_next.F.ok sc_w_next (fun vs H Q E h => ?_) (fun cdv A outer s H vs Q E hr h => ?_)
  · obtain ⟨a, m, rfl, _⟩ := h
    rfl
  · obtain ⟨a, m, rfl, ⟨⟨c0, c1, c2⟩, hs⟩, m0, m1, k⟩ := h
    have hL : SqL K H a [.int c0, .int c1, .int c2] := sqL hs
    refine ⟨_, (pss_cons (ps_if (pt_cmpR op_ge (pe_ix (ix_seqK (K := K) rfl) (pv 0) pe_int (fun _ _ => rfl)) (pe_op op_pow pe_int pe_int) (nomark _))
      (pss_cons (ps_set (i := 2) sc_w_next.nd rfl (Or.inl rfl) (pe_op op_mod (pe_ix (ix_seqK (K := K) rfl) (pv 0) pe_int (fun _ _ => rfl)) (pv 1)))
      (pss_cons (ps_asg (pe_op op_fdivW (pe_ix (ix_seqK (K := K) rfl) (pv 0) pe_int (fun _ _ => rfl)) (pv 1)) (pg_sub (pv 0) pe_int set_listA))
      (pss_one (ps_ret (pv 2)))))
      pss_nil)
      (pss_cons (ps_asg (pe_op op_add (pe_ix (ix_seqK (K := K) rfl) (pv 0) pe_int (fun _ _ => rfl)) pe_int) (pg_sub (pv 0) pe_int set_listA))
      (pss_one (ps_ret (pe_op op_mod (pe_call (ok_w_mixed T) (hr.mono (by decide)) (by rfl) T.d_w_mixed.g T.d_w_mixed.F.kp T.d_w_mixed.b .nil pass0 (pa_cons (pe_ix (ix_seqK (K := K) rfl) (pv 0) pe_int (fun _ _ => rfl)) (pa_cons (pe_ix (ix_seqK (K := K) rfl) (pv 0) pe_int (fun _ _ => rfl)) pa_nil))) (pv 1)))))), ?_⟩
    refine ⟨_, rfl, .inl ⟨_, _, _, _, rfl, rfl, hL, atI_nat (j := 0) rfl, _, _, rfl, rfl, ⟨by decide, by decide, by decide⟩, _, _, rfl, rfl, _, rfl, ite2 (fun e => ?_) (fun e => ?_)⟩⟩
    · refine ⟨_, rfl, .inl ⟨_, _, _, _, rfl, rfl, hL, atI_nat (j := 0) rfl, ?_⟩⟩
      tm_at "rds"
      refine .inl ⟨_, _, _, _, rfl, rfl, hL, atI_nat (j := 0) rfl, ?_⟩
      tm_at "rds"
      refine ⟨_, _, _, _, rfl, rfl, hs, rfl, fun H1 B1 g1 => ?_⟩
      tm_at "rds"
      refine k _ _ ⟨⟨(c0 / m, c1, c2), g1⟩, B1⟩ ?_ ?_
      · exact Int.emod_nonneg _ (by omega)
      · exact Int.emod_lt_of_pos _ m0
    · refine ⟨_, rfl, .inl ⟨_, _, _, _, rfl, rfl, hL, atI_nat (j := 2) rfl, ?_⟩⟩
      tm_at "rds"
      refine ⟨_, _, _, _, rfl, rfl, hs, rfl, fun H1 B1 g1 => ?_⟩
      refine ⟨_, rfl, .inl ⟨_, _, _, _, rfl, rfl, sqL g1, atI_nat (j := 1) rfl, ?_⟩⟩
      refine ⟨_, rfl, .inl ⟨_, _, _, _, rfl, rfl, sqL g1, atI_nat (j := 2) rfl, ?_⟩⟩
      refine ⟨_, _, rfl, fun n n0 => ?_⟩
      tm_at "rds"
      refine k _ _ ⟨⟨(c0, c1, c2 + 1), g1⟩, B1⟩ ?_ ?_
      · exact Int.emod_nonneg _ (by omega)
      · exact Int.emod_lt_of_pos _ m0
end
end My
namespace My
open PySem PySem.Spec PyProof.Rows L2
section
variable {P : Program} {w : World} {K : PySem.W.Frag} {mg : Str → Option Value} {base : Heap}
def sp_w_bounds (K : PySem.W.Frag) : Sp := fun vs H Q _ => ∃ (a : Addr) (many : Nat), vs = [.ref a, .int (many : Int)] ∧ Src H a ∧ many ≤ 12 ∧
  ∀ (p : Addr) (bs : List Int) (H' : Hp), Dr a H H' → H p = none → p ≠ a → H' p = some (.lst (bs.map .int)) → bs.length = many → (∀ z ∈ bs, 0 ≤ z ∧ z < 10000) → Q (.ref p) H'
theorem ok_w_bounds (T : Tx K mg) : FnOk P w K mg base CX0 3 T.d_w_bounds.f T.d_w_bounds.fd ["_law_source_here", "_law_many"] (sp_w_bounds K) := by
  refine T.d_w_bounds.F.ok sc_w_bounds (fun vs H Q E h => ?_) (fun cdv A outer s H vs Q E hr h => ?_)
  · obtain ⟨a, many, rfl, _⟩ := h
    rfl
  · obtain ⟨a, many, rfl, hs, hm, k⟩ := h
    refine ⟨_, (pss_cons (ps_set (i := 2) sc_w_bounds.nd rfl (Or.inl rfl) (pe_ix (ix_listK (K := K) rfl) (pe_lstA (pa_cons pe_int (pa_cons pe_int (pa_cons (pe_op op_pow pe_int pe_int) pa_nil)))) (pe_call (ok_w_next T) (hr.mono (by decide)) (by rfl) T.d_w_next.g T.d_w_next.F.kp T.d_w_next.b .nil pass0 (pa_cons (pv 0) (pa_cons pe_int pa_nil))) (fun _ _ => rfl)))
      (pss_cons (ps_set (i := 3) sc_w_bounds.nd rfl (Or.inl rfl) (pe_lstA pa_nil))
      (pss_cons (ps_for PassesOwn.never (by rfl) (pi_range1 (by rfl) T.b_range (pa_cons (pv 1) pa_nil)) (pg_name (i := 4) sc_w_bounds.nd rfl (Or.inl rfl))
      (pss_cons (ps_set (i := 5) sc_w_bounds.nd rfl (Or.inl rfl) (pe_call (ok_w_next T) (hr.mono (by decide)) (by rfl) T.d_w_next.g T.d_w_next.F.kp T.d_w_next.b .nil pass0 (pa_cons (pv 0) (pa_cons pe_int pa_nil))))
      (pss_cons (ps_set (i := 6) sc_w_bounds.nd rfl (Or.inl rfl) (pe_call (ok_w_next T) (hr.mono (by decide)) (by rfl) T.d_w_next.g T.d_w_next.F.kp T.d_w_next.b .nil pass0 (pa_cons (pv 0) (pa_cons (pv 2) pa_nil))))
      (pss_cons (ps_if (pt_cmpR op_eq (pv 5) pe_int (nomark _))
      (pss_one (ps_set (i := 6) sc_w_bounds.nd rfl (Or.inl rfl) pe_int))
      pss_nil)
      (pss_cons (ps_if (PW.pt (pw_and (pt_cmpR op_eq (pv 5) pe_int (nomark _)) (pw_and1 (pt_cmpR (op_neIsK (K := K) hr.units rfl) (pv 3) (pe_lstA pa_nil) (nomark _)))))
      (pss_one (ps_set (i := 6) sc_w_bounds.nd rfl (Or.inl rfl) (pe_ix (ix_listK (K := K) rfl) (pv 3) (pe_un un_neg pe_int) (fun _ _ => rfl))))
      pss_nil)
      (pss_one (ps_expr (pe_bm PySem.F.plainAttrs_list PySem.F.slot_list_append PySem.F.type_list_append mt_appendA (pv 3) (pa_cons (pv 6) pa_nil)))))))))
      (pss_one (ps_ret (pv 3)))))), ?_⟩
    tm_at "rzs"
    intro p0 G0 f0 S0 g0
    have np0 : p0 ≠ a := hs.ne f0
    have hs0 : Src G0 a := hs.same S0
    tm_at "rzs"
    intro n1 H1 d1 l1 u1
    obtain ⟨x, hx, far, rfl, far0, far1⟩ := pick3 (P := InR 1 10001) l1 u1 ⟨3, rfl, by decide, by decide⟩ ⟨60, rfl, by decide, by decide⟩ ⟨10 ^ (4 : Int).toNat, rfl, by decide, by decide⟩
    refine ⟨_, _, _, _, rfl, rfl, sqL (d1.app np0 g0), hx, ?_⟩
    tm_at "rzs"
    intro p H2 f2 S2 g2
    have np : p ≠ a := d1.s.ne f2
    have npa := np.symm
    have d02 : Dr a H H2 := ((Dr.of hs S0).trans d1).same S2
    have fp : H p = none := ((Dr.of hs S0).trans d1).free f2 np
    refine ⟨_, rfl, _, rfl, by omega, by omega, ?_⟩
    refine for_range (lo := 0) (n := many) (fun i σ H' => ∃ v4 v5 v6 : Option V, ∃ cs : List Int, σ = [some (.ref a), some (.int (many : Int)), some (.int far), some (.ref p), v4, v5, v6] ∧ Dr a H H' ∧ H' p = some (.lst (cs.map .int)) ∧ cs.length = i ∧ ∀ z ∈ cs, 0 ≤ z ∧ z < 10000)
      ⟨_, _, _, [], rfl, d02, g2, rfl, fun z hz => by cases hz⟩ ?_ ?_
    · rintro i σ H3 hi ⟨v4, v5, v6, cs, rfl, d3, g3, hl, hw⟩
      tm_at "rzs"
      intro way H4 d4 l4 u4
      tm_at "rzs"
      intro one H5 d5 l5 u5
      have g5 : H5 p = some (.lst (cs.map .int)) := d5.app np (d4.app np g3)
      have d35 := (d3.trans d4).trans d5
      dsimp only
      refine seq_key (M := fun σ H => ∃ one : Int, σ = [some (.ref a), some (.int (many : Int)), some (.int far), some (.ref p), some (.int (0 + (i : Int))), some (.int way), some (.int one)] ∧ H = H5 ∧ 0 ≤ one ∧ one < 10000) ?_ (fun NN hNN => ?_)
      rotate_left
      · tm_at "rzs"
        refine ite2 (fun e => ?_) (fun e => ?_)
        · tm_at "rzs"
          exact hNN _ _ ⟨0, rfl, rfl, by decide, by decide⟩
        · exact hNN _ _ ⟨one, rfl, rfl, l5, by omega⟩
      rintro σ H ⟨one, rfl, rfl, l5, u5⟩
      refine seq_key (M := fun σ H' => ∃ one : Int, σ = [some (.ref a), some (.int (many : Int)), some (.int far), some (.ref p), some (.int (0 + (i : Int))), some (.int way), some (.int one)] ∧ Same H H' ∧ 0 ≤ one ∧ one < 10000) ?_ (fun NN hNN => ?_)
      rotate_left
      · tm_at "rzs"
        refine ite2 (fun e => ?_) (fun e => ?_)
        · tm_at "rzs"
          intro pE H6 f6 s6 g6
          refine ⟨p, pE, cs, [], rfl, rfl, sqL (s6 _ _ g5), sqL g6, ?_⟩
          tm_at "rzs"
          refine ite2 (fun e => ?_) (fun e => ?_)
          · obtain ⟨c1, z, rfl⟩ : ∃ c1 z, cs = c1 ++ [z] := by
              rcases List.eq_nil_or_concat cs with h | ⟨c1, z, h⟩
              · rw [h] at e; simp at e
              · exact ⟨c1, z, by rw [h, List.concat_eq_append]⟩
            tm_at "rzs"
            refine ⟨p, _, _, _, rfl, rfl, sqL (s6 _ _ g5), by rw [List.map_append]; exact atI_last _ _, ?_⟩
            have hz := hw z (by simp)
            exact hNN _ _ ⟨z, rfl, s6, hz.1, hz.2⟩
          · exact hNN _ _ ⟨one, rfl, s6, l5, u5⟩
        · exact iteF (hNN _ _ ⟨one, rfl, Same.refl _, l5, u5⟩)
      rintro σ H6 ⟨one, rfl, s6, l6, u6⟩
      have g7 : H6 p = some (.lst (cs.map .int)) := s6 _ _ g5
      tm_at "rzs"
      refine ⟨p, _, _, rfl, rfl, g7, small1000 (by rw [List.length_map]; omega), fun H8 b8 g8 => ?_⟩
      refine ⟨_, _, _, cs ++ [one], rfl, Dr.mut (d35.same s6) b8 fp npa, by rw [g8, List.map_append]; rfl, by rw [List.length_append, hl]; rfl, fun x hx => ?_⟩
      rcases List.mem_append.mp hx with hx | hx
      · exact hw x hx
      · rw [List.mem_singleton.mp hx]; exact ⟨l6, u6⟩
    · rintro σ H3 ⟨v4, v5, v6, cs, rfl, d3, g3, hl, hw⟩
      tm_at "rzs"
      exact k p cs H3 d3 fp np g3 hl hw
end
end My
namespace My
open PySem PySem.Spec PyProof.Rows L2
section
variable {P : Program} {w : World} {K : PySem.W.Frag} {mg : Str → Option Value} {base : Heap}
def sp_w_total (K : PySem.W.Frag) : Sp := fun vs H Q _ => ∃ (a B : Addr) (bs : List Int), vs = [.ref a, .ref B] ∧ Src H a ∧ B ≠ a ∧ H B = some (.lst (bs.map .int)) ∧ bs.length ≤ 12 ∧ (∀ z ∈ bs, 0 ≤ z ∧ z < 10000) ∧ ∀ (n : Int) (H' : Hp), Dr a H H' → 0 ≤ n → n < 1000000 → Q (.int n) H'
theorem ok_w_total (T : Tx K mg) : FnOk P w K mg base CX0 3 T.d_w_total.f T.d_w_total.fd ["_law_source_here", "_law_bounds_here"] (sp_w_total K) := by
  refine T.d_w_total.F.ok sc_w_total (fun vs H Q E h => ?_) (fun cdv A outer s H vs Q E hr h => ?_)
  · obtain ⟨a, B, bs, rfl, _⟩ := h
    rfl
  · obtain ⟨a, B, bs, rfl, hs, nB, hB, hn, hb, k⟩ := h
    have sb := sum_bounds bs hb
    refine ⟨_, (pss_cons (ps_set (i := 2) sc_w_total.nd rfl (Or.inl rfl) (pe_callB (cr_sumK (K := K) rfl rfl) (by rfl) T.b_sum (by decide +kernel) (pa_cons (pv 1) pa_nil)))
      (pss_cons (ps_set (i := 3) sc_w_total.nd rfl (Or.inl rfl) (pe_lstA (pa_cons pe_int (pa_cons (pe_call (ok_w_next T) (hr.mono (by decide)) (by rfl) T.d_w_next.g T.d_w_next.F.kp T.d_w_next.b .nil pass0 (pa_cons (pv 0) (pa_cons pe_int pa_nil))) (pa_cons (pe_op op_sub (pe_op op_add (pv 2) (pe_call (ok_w_next T) (hr.mono (by decide)) (by rfl) T.d_w_next.g T.d_w_next.F.kp T.d_w_next.b .nil pass0 (pa_cons (pv 0) (pa_cons pe_int pa_nil)))) pe_int) (pa_cons (pe_call (ok_w_next T) (hr.mono (by decide)) (by rfl) T.d_w_next.g T.d_w_next.F.kp T.d_w_next.b .nil pass0 (pa_cons (pv 0) (pa_cons (pe_op op_add (pv 2) pe_int) pa_nil))) pa_nil))))))
      (pss_one (ps_ret (pe_callB (call_max2 rfl) (by rfl) T.b_max (by decide +kernel) (pa_cons pe_int (pa_cons (pe_ix (ix_listK (K := K) rfl) (pe_op (op_catK (K := K) rfl) (pv 3) (pe_op op_repA (pe_slice (sl_listK (K := K) rfl) (pv 3) (po_some pe_int) po_none) pe_int)) (pe_call (ok_w_next T) (hr.mono (by decide)) (by rfl) T.d_w_next.g T.d_w_next.F.kp T.d_w_next.b .nil pass0 (pa_cons (pv 0) (pa_cons pe_int pa_nil))) (fun _ _ => rfl)) pa_nil))))))), ?_⟩
    tm_at "rzs"
    refine ⟨B, bs, rfl, sqL hB, ?_⟩
    tm_at "rzs"
    intro n1 H1 d1 l1 u1
    tm_at "rzs"
    intro n2 H2 d2 l2 u2
    tm_at "rzs"
    intro n3 H3 d3 l3 u3
    tm_at "rzs"
    intro p4 H4 f4 S4 g4
    have np4 : p4 ≠ a := d3.s.ne f4
    tm_at "rzs"
    refine ⟨p4, _, rfl, sqL g4, fun p5 H5 f5 s5 g5 => ?_⟩
    have e5 : cutV [V.int 0, V.int n1, V.int (bs.sum + n2 - 1), V.int n3] (some 3) none = [V.int n3] := rfl
    have g5 : H5 p5 = some (.lst [V.int n3]) := g5
    tm_at "rzs"
    refine ⟨p5, _, _, rfl, rfl, g5, by decide, by decide, (by show 1 * 2 ≤ sizeLine; decide), fun p6 H6 f6 s6 g6 => ?_⟩
    have g6 : H6 p6 = some (.lst [V.int n3, V.int n3]) := g6
    refine ⟨_, _, _, _, rfl, rfl, s6 _ _ (s5 _ _ g4), g6, (by show 4 + 2 ≤ sizeLine; decide), fun p7 H7 f7 s7 g7 => ?_⟩
    have s47 := (s5.trans s6).trans s7
    have np7 : p7 ≠ a := (d3.s.same ((S4.trans s5).trans s6)).ne f7
    tm_at "rzs"
    intro n8 H8 d8 l8 u8
    obtain ⟨x, hx, tot, rfl, tot0, tot1⟩ := pick6 (P := InR (-1) 200000) l8 u8 ⟨0, rfl, by decide, by decide⟩ ⟨n1, rfl, by omega, by omega⟩ ⟨bs.sum + n2 - 1, rfl, by omega, by omega⟩ ⟨n3, rfl, by omega, by omega⟩ ⟨n3, rfl, by omega, by omega⟩ ⟨n3, rfl, by omega, by omega⟩
    refine ⟨_, _, _, _, rfl, rfl, sqL (d8.app np7 g7), hx, ?_⟩
    tm_at "rzs"
    refine k _ H8 ((((d1.trans d2).trans d3).same (S4.trans s47)).trans d8) ?_ ?_ <;> (split <;> omega)
end
end My
namespace My
open PySem PySem.Spec PyProof.Rows L2
section
variable {P : Program} {w : World} {K : PySem.W.Frag} {mg : Str → Option Value} {base : Heap}
def sp_w_exact_right (K : PySem.W.Frag) : Sp := fun vs H Q _ => ∃ (L B W : Addr) (t b total : Int) (bs ws fs : List Int), vs = [.ref L, .int total, .ref B, .ref W] ∧ H L = some (.tup [.int t, .int b]) ∧ H B = some (.lst (bs.map .int)) ∧ H W = some (.lst (ws.map .int)) ∧
  bs.length = ws.length ∧ ws.length ≤ 12 ∧ (∀ z ∈ bs, 0 ≤ z ∧ z < 10000) ∧ (∀ z ∈ ws, 0 < z ∧ z < 100) ∧ 0 ≤ total ∧ total < 1000000 ∧ Dealt ws.length (wAt ws) (cAt (bs.map some)) total (some (t, b)) fs ∧ ∀ H', Same H H' → Q (.bl true) H'
theorem ok_w_exact_right (T : Tx K mg) : FnOk P w K mg base CX0 5 T.d_w_exact_right.f T.d_w_exact_right.fd ["_law_level", "_law_total_here", "_law_bounds_here", "_law_weights"] (sp_w_exact_right K) := by
  refine T.d_w_exact_right.F.ok sc_w_exact_right (fun vs H Q E h => ?_) (fun cdv A outer s H vs Q E hr h => ?_)
  · obtain ⟨L, B, W, t, b, total, bs, ws, fs, rfl, _⟩ := h
    rfl
  · obtain ⟨L, B, W, t, b, total, bs, ws, fs, rfl, hL, hB, hW, lb, n12, hb, hw, T0, T1, d, k⟩ := h
    refine ⟨_, (pss_cons (ps_asg (pv 0) (pg_tup (by rfl) (pgs_cons (pg_name (i := 4) sc_w_exact_right.nd rfl (Or.inr rfl)) (pgs_cons (pg_name (i := 5) sc_w_exact_right.nd rfl (Or.inr rfl)) pgs_nil))))
      (pss_cons (ps_setLc (i := 2) (own := [("_law_bound", 12)]) (g := gName 12) (by rfl) sc_w_exact_right.nd rfl rfl (sw_true rfl rfl rfl (by decide +kernel)) (pi_listK (K := K) rfl (pv 2)) (blkOk_by (own := [("_law_bound", 12)]) (N := N_w_exact_right) (sc := defScope s_w_exact_right) (by decide +kernel)) (fun _ _ _ _ _ => (pg_name (i := 12) sc_w_exact_right.nd rfl (Or.inl rfl))) (fun _ _ _ _ _ => pts_nil) (fun _ _ _ _ _ => (pe_op op_mul (pv 12) (pv 5))))
      (pss_cons (ps_setLc (i := 6) (own := [("_law_weight", 13)]) (g := gName 13) (by rfl) sc_w_exact_right.nd rfl rfl (sw_true rfl rfl rfl (by decide +kernel)) (pi_listK (K := K) rfl (pv 3)) (blkOk_by (own := [("_law_weight", 13)]) (N := N_w_exact_right) (sc := defScope s_w_exact_right) (by decide +kernel)) (fun _ _ _ _ _ => (pg_name (i := 13) sc_w_exact_right.nd rfl (Or.inl rfl))) (fun _ _ _ _ _ => pts_nil) (fun _ _ _ _ _ => (pe_op op_mul (pv 4) (pv 13))))
      (pss_cons (ps_set (i := 7) sc_w_exact_right.nd rfl (Or.inl rfl) (pe_call (ok_dealt T) (hr.mono (by decide)) (by rfl) T.d_dealt.g T.d_dealt.F.kp T.d_dealt.b .nil pass0 (pa_cons (pe_op op_mul (pv 1) (pv 5)) (pa_cons (pe_callTy (call_listK (K := K) rfl) (by rfl) T.b_list (by decide +kernel) (pa_cons (pv 2) pa_nil)) (pa_cons (pe_callTy (call_listK (K := K) rfl) (by rfl) T.b_list (by decide +kernel) (pa_cons (pv 3) pa_nil)) pa_nil)))))
      (pss_cons (ps_setLc (i := 8) (own := [("_law_bound", 12), ("_law_part", 14)]) (g := gTup K 2 (gCons (gName 12) (gCons (gName 14) gNil))) (by rfl) sc_w_exact_right.nd rfl rfl (sw_true rfl rfl rfl (by decide +kernel)) (pi_zipK (K := K) rfl (by rfl) T.b_zip (pa_cons (pv 2) (pa_cons (pv 6) pa_nil))) (blkOk_by (own := [("_law_bound", 12), ("_law_part", 14)]) (N := N_w_exact_right) (sc := defScope s_w_exact_right) (by decide +kernel)) (fun _ _ _ _ _ => (pg_tup (by rfl) (pgs_cons (pg_name (i := 12) sc_w_exact_right.nd rfl (Or.inl rfl)) (pgs_cons (pg_name (i := 14) sc_w_exact_right.nd rfl (Or.inl rfl)) pgs_nil)))) (fun _ _ _ _ _ => pts_nil) (fun _ _ _ _ _ => (pe_callB (call_min2 rfl) (by rfl) T.b_min (by decide +kernel) (pa_cons (pv 12) (pa_cons (pv 14) pa_nil)))))
      (pss_cons (ps_if (pt_cmpR (op_neDK (K := K) hr.units rfl) (pv 7) (pe_tupA (pa_cons (pe_tupA (pa_cons (pv 4) (pa_cons pe_int pa_nil))) (pa_cons (pv 8) pa_nil))) (nomark _))
      (pss_one (ps_ret pe_bl))
      pss_nil)
      (pss_cons (ps_set (i := 9) sc_w_exact_right.nd rfl (Or.inl rfl) (pe_op op_sub (pe_op op_add (pe_callB (cr_sumK (K := K) rfl rfl) (by rfl) T.b_sum (by decide +kernel) (pa_cons (pv 2) pa_nil)) (pe_callB (cr_sumK (K := K) rfl rfl) (by rfl) T.b_sum (by decide +kernel) (pa_cons (pv 6) pa_nil))) (pe_op op_mul (pv 1) (pv 5))))
      (pss_cons (ps_set (i := 10) sc_w_exact_right.nd rfl (Or.inl rfl) (pe_call (ok_levelled T) (hr.mono (by decide)) (by rfl) T.d_levelled.g T.d_levelled.F.kp T.d_levelled.b .nil pass0 (pa_cons (pv 9) (pa_cons (pe_callTy (call_listK (K := K) rfl) (by rfl) T.b_list (by decide +kernel) (pa_cons (pv 2) pa_nil)) (pa_cons (pe_callTy (call_listK (K := K) rfl) (by rfl) T.b_list (by decide +kernel) (pa_cons (pv 3) pa_nil)) pa_nil)))))
      (pss_cons (ps_if (pt_cmpR (op_eqIsK (K := K) hr.units rfl) (pe_lc (own := [("_law_bound", 12), ("_law_part", 14)]) (g := gTup K 2 (gCons (gName 12) (gCons (gName 14) gNil))) (by rfl) sc_w_exact_right.nd (pi_zipK (K := K) rfl (by rfl) T.b_zip (pa_cons (pv 2) (pa_cons (pv 6) pa_nil))) (blkOk_by (own := [("_law_bound", 12), ("_law_part", 14)]) (N := N_w_exact_right) (sc := defScope s_w_exact_right) (by decide +kernel)) (fun _ _ _ _ _ => (pg_tup (by rfl) (pgs_cons (pg_name (i := 12) sc_w_exact_right.nd rfl (Or.inl rfl)) (pgs_cons (pg_name (i := 14) sc_w_exact_right.nd rfl (Or.inl rfl)) pgs_nil)))) (fun _ _ _ _ _ => (pts_one (pt_cmpR op_gt (pv 14) (pv 12) (nomark _)))) (fun _ _ _ _ _ => (pv 14))) (pe_lstA pa_nil) (nomark _))
      (pss_one (ps_ret (pe_cmpR (op_eqDK (K := K) hr.units rfl) (pv 10) (pe_tupA (pa_cons pe_non (pa_cons (pv 2) pa_nil))) (nomark _))))
      pss_nil)
      (pss_cons (ps_setLc (i := 8) (own := [("_law_bound", 12), ("_law_part", 14)]) (g := gTup K 2 (gCons (gName 12) (gCons (gName 14) gNil))) (by rfl) sc_w_exact_right.nd rfl rfl (sw_true rfl rfl rfl (by decide +kernel)) (pi_zipK (K := K) rfl (by rfl) T.b_zip (pa_cons (pv 2) (pa_cons (pv 6) pa_nil))) (blkOk_by (own := [("_law_bound", 12), ("_law_part", 14)]) (N := N_w_exact_right) (sc := defScope s_w_exact_right) (by decide +kernel)) (fun _ _ _ _ _ => (pg_tup (by rfl) (pgs_cons (pg_name (i := 12) sc_w_exact_right.nd rfl (Or.inl rfl)) (pgs_cons (pg_name (i := 14) sc_w_exact_right.nd rfl (Or.inl rfl)) pgs_nil)))) (fun _ _ _ _ _ => pts_nil) (fun _ _ _ _ _ => (pe_callB (call_max2 rfl) (by rfl) T.b_max (by decide +kernel) (pa_cons (pv 12) (pa_cons (pv 14) pa_nil)))))
      (pss_cons (ps_if (pt_cmpR (op_neDK (K := K) hr.units rfl) (pv 10) (pe_tupA (pa_cons (pe_tupA (pa_cons (pv 4) (pa_cons pe_int pa_nil))) (pa_cons (pv 8) pa_nil))) (nomark _))
      (pss_one (ps_ret pe_bl))
      pss_nil)
      (pss_cons (ps_setLc (i := 11) (own := [("_law_one", 15), ("_law_other", 16)]) (g := gTup K 2 (gCons (gName 15) (gCons (gName 16) gNil))) (by rfl) sc_w_exact_right.nd rfl rfl (sw_true rfl rfl rfl (by decide +kernel)) (pi_zipK (K := K) rfl (by rfl) T.b_zip (pa_cons (pe_ix (ix_tupK (K := K) rfl) (pv 7) pe_int (fun _ _ => rfl)) (pa_cons (pe_ix (ix_tupK (K := K) rfl) (pv 10) pe_int (fun _ _ => rfl)) pa_nil))) (blkOk_by (own := [("_law_one", 15), ("_law_other", 16)]) (N := N_w_exact_right) (sc := defScope s_w_exact_right) (by decide +kernel)) (fun _ _ _ _ _ => (pg_tup (by rfl) (pgs_cons (pg_name (i := 15) sc_w_exact_right.nd rfl (Or.inl rfl)) (pgs_cons (pg_name (i := 16) sc_w_exact_right.nd rfl (Or.inl rfl)) pgs_nil)))) (fun _ _ _ _ _ => pts_nil) (fun _ _ _ _ _ => (pe_op op_add (pv 15) (pv 16))))
      (pss_one (ps_ret (pe_cmpR (op_eqIsK (K := K) hr.units rfl) (pv 11) (pe_lc (own := [("_law_bound", 12), ("_law_part", 14)]) (g := gTup K 2 (gCons (gName 12) (gCons (gName 14) gNil))) (by rfl) sc_w_exact_right.nd (pi_zipK (K := K) rfl (by rfl) T.b_zip (pa_cons (pv 2) (pa_cons (pv 6) pa_nil))) (blkOk_by (own := [("_law_bound", 12), ("_law_part", 14)]) (N := N_w_exact_right) (sc := defScope s_w_exact_right) (by decide +kernel)) (fun _ _ _ _ _ => (pg_tup (by rfl) (pgs_cons (pg_name (i := 12) sc_w_exact_right.nd rfl (Or.inl rfl)) (pgs_cons (pg_name (i := 14) sc_w_exact_right.nd rfl (Or.inl rfl)) pgs_nil)))) (fun _ _ _ _ _ => pts_nil) (fun _ _ _ _ _ => (pe_op op_add (pv 12) (pv 14)))) (nomark _)))))))))))))))), ?_⟩
    tm_at "rzs"
    refine ⟨_, _, rfl, sqT hL, rfl, ?_⟩
    have hwp : ∀ i, i < ws.length → 0 < wAt ws i ∧ wAt ws i < 100 := fun i hi => hw _ (wAt_mem hi)
    have hbp : ∀ i, i < bs.length → 0 ≤ wAt bs i ∧ wAt bs i < 10000 := fun i hi => hb _ (wAt_mem hi)
    obtain ⟨t0, b0, hg, hno, hs, hfs⟩ := d.lev t b rfl
    have hcap : ∀ i, i < ws.length → cAt (bs.map some) i = some (wAt bs i) := fun i hi => cAt_map (f := id) (by omega)
    have small := d.small (fun i hi => Int.le_of_lt (hwp i hi).1) (fun i c e => by
      obtain ⟨z, hz, e2⟩ := List.mem_map.mp (cAt_mem e)
      cases e2
      exact (hb _ hz).1)
    have bw : S (wAt ws) (List.range ws.length) ≤ 100 * ws.length := by
      have := S_bound (f := wAt ws) (c := 100) (R := List.range ws.length) fun i hi => Int.le_of_lt (hwp i (List.mem_range.mp hi)).2
      rw [List.length_range] at this; exact this
    have b1 : b ≤ 1200 := by omega
    have tb : total * b ≤ 1000000 * 1200 := Int.mul_le_mul (by omega) b1 (by omega) (by omega)
    have tb0 : 0 ≤ total * b := Int.mul_nonneg T0 (by omega)
    have t1 : t ≤ 1200000000 := by omega
    tm_at "rzs"
    refine ⟨⟨_, sqL hB⟩, fun pB hpB => lcLm (K := K) V.int (fun u => V.int (u * b)) hpB (sqL hB) (by omega) (fun i u H1 Kt Kf hui s1 kk => ?_) (fun H1 s1 gB => ?_)⟩
    · have := hb u (List.mem_of_getElem? hui)
      tm_at "rzs"
      exact kk _ (Same.refl _)
    tm_at "rzs"
    refine ⟨⟨_, sqL (s1 _ _ hW)⟩, fun pP hpP => lcLm (K := K) V.int (fun u => V.int (t * u)) hpP (sqL (s1 _ _ hW)) (by omega) (fun i u H2 Kt Kf hui s2 kk => ?_) (fun H2 s2 gP => ?_)⟩
    · have := hw u (List.mem_of_getElem? hui)
      tm_at "rzs"
      exact kk _ (Same.refl _)
    have gB2 := s2 _ _ gB
    have eB : bs.map (fun u => V.int (u * b)) = (bs.map fun u => u * b).map V.int := by rw [List.map_map]; rfl
    have eP : ws.map (fun u => V.int (t * u)) = (ws.map fun u => t * u).map V.int := by rw [List.map_map]; rfl
    rw [eB] at gB2
    rw [eP] at gP
    tm_at "rzs"
    refine ⟨pB, _, rfl, .inl (sqL gB2), fun q3 H3 f3 s3 g3 => ?_⟩
    have s03 := (s1.trans s2).trans s3
    tm_at "rzs"
    refine ⟨W, _, rfl, .inl (sqL (s03 _ _ hW)), fun q4 H4 f4 s4 g4 => ?_⟩
    have eC : (bs.map fun u => u * b).map V.int = (bs.map fun u => some (u * b)).map optI := by rw [List.map_map, List.map_map]; rfl
    have g3' : H4 q3 = some (.lst ((bs.map fun u => some (u * b)).map optI)) := by rw [← eC]; exact s4 _ _ g3
    have hw48 : ∀ z ∈ ws, 0 ≤ z ∧ z < 2 ^ 48 := fun z hz => by have := hw z hz; omega
    have hcn : ∀ i, i < ws.length → 0 ≤ wAt bs i * b := fun i hi => Int.mul_nonneg (hbp i (by omega)).1 (Int.le_of_lt b0)
    tm_at "rzs"
    refine ⟨q3, q4, total * b, _, ws, rfl, g3', g4, by rw [List.length_map]; exact lb, by omega, tb0, by omega, fun z hz => ?_, hw48, fun pp qq lv' lvv' fs' H5 s5 npp nq hp hq hl hlb hd => ?_⟩
    · obtain ⟨u, hu, e⟩ := List.mem_map.mp hz
      cases e
      exact Int.mul_nonneg (hb _ hu).1 (Int.le_of_lt b0)
    obtain ⟨mn, hmn⟩ : ∃ mn, mn = mnE t b bs ws := ⟨_, rfl⟩
    have emn : ∀ i, mn i = min (wAt bs i * b) (t * wAt ws i) := fun i => by rw [hmn, mnE_eq]
    have ex : Dealt ws.length (wAt ws) (cAt (bs.map fun u => some (u * b))) (total * b) (some (t, 1)) ((List.range ws.length).map mn) :=
      Dealt.exact (c := wAt bs) (fun i hi => (hwp i hi).1) hcap (fun i hi => cAt_map (f := fun u => u * b) (by omega)) (by rw [List.length_map, List.length_range]) (fun i hi => by rw [List.getElem?_map, range_get hi]; show some (mn i) = _; rw [emn]) d
    obtain ⟨rfl, rfl⟩ := Dealt.uniq hd ex
    dsimp only [gName]
    show tSeq _ _ _ [some (.ref L), some (.int total), some (.ref pB), some (.ref W), some (.int t), some (.int b), some (.ref pP), some (.ref pp), none, none, none, none, none, none, none, none, none] H5
    have s25 := (s3.trans s4).trans s5
    have gB5 := s25 _ _ gB2
    have gP5 := s25 _ _ gP
    have lX : ((bs.map fun u => u * b).map V.int).length = ws.length := by rw [List.length_map, List.length_map, lb]
    have lZ : ((ws.map fun u => t * u).map V.int).length = ws.length := by rw [List.length_map, List.length_map]
    have hX : ∀ i, i < ws.length → ((bs.map fun u => u * b).map V.int)[i]? = some (.int (wAt bs i * b)) := fun i hi => at_map (f := fun u => u * b) (by omega)
    have hZ : ∀ i, i < ws.length → ((ws.map fun u => t * u).map V.int)[i]? = some (.int (t * wAt ws i)) := fun i hi => at_map (f := fun u => t * u) hi
    tm_at "rzs"
    refine ⟨pB, pP, _, _, rfl, sqL gB5, sqL gP5, fun pD hpD => lcZm (K := K) (fun i => .int (wAt bs i * b)) (fun i => .int (t * wAt ws i)) (fun i => .int (mn i)) lX lZ hX hZ hpD (sqL gB5) (sqL gP5) (by omega) (fun i T H6 Kt Kf hi s6 gT kk => ?_) (fun H6 s6 gD => ?_)⟩
    · refine ⟨_, _, rfl, sqT gT, rfl, ?_⟩
      rw [hmn] at kk
      unfold mnE at kk
      tm_at "rzs"
      exact kk _ (Same.refl _)
    have gp6 := s6 _ _ hp
    have gq6 := s6 _ _ hq
    tm_at "rzs"
    intro r7 H7 f7 s7 g7
    tm_at "rzs"
    intro p8 H8 f8 s8 g8
    have s68 := s7.trans s8
    have eD : (List.range ws.length).map (fun i => V.int (mn i)) = ((List.range ws.length).map mn).map V.int := by rw [List.map_map]; rfl
    rw [eD] at gD
    refine ⟨_, _, dp_told (s68 _ _ gp6) (s68 _ _ gq6) (hl.mono (s6.trans s68)), dp_told g8 (s68 _ _ gD) (show LvAt H8 (some (t, 1)) (.ref r7) from ⟨r7, rfl, s8 _ _ g7⟩), told_shaped _ _, told_shaped _ _, ?_⟩
    rw [told_same]
    have s58 := s6.trans s68
    have gB8 := s58 _ _ gB5
    have gP8 := s58 _ _ gP5
    tm_at "rzs"
    refine ⟨pB, _, rfl, sqL gB8, ?_⟩
    tm_at "rzs"
    refine ⟨pP, _, rfl, sqL gP8, ?_⟩
    have rs := rest_sum lb (fun i hi => (hwp i hi).1) hs
    obtain ⟨mx, hmx⟩ : ∃ mx, mx = mxE t b bs ws := ⟨_, rfl⟩
    have emx : ∀ i, mx i = max (wAt bs i * b) (t * wAt ws i) := fun i => by rw [hmx, mxE_eq]
    have lex := lev_exact1 lb (fun i hi => (hwp i hi).1) hcn t0 rs
    have lno := lev_exact0 lb rs
    rw [← hmx] at lex
    have r01 := rest_bound (b1 := b1) b0 n12 lb t0 t1 hwp hbp
    have rs0 : 0 ≤ (bs.map fun u => u * b).sum + (ws.map fun u => t * u).sum - total * b := by rw [rs]; exact r01.1
    have rs1 : (bs.map fun u => u * b).sum + (ws.map fun u => t * u).sum - total * b < 2 ^ 64 := by rw [rs]; have := r01.2; omega
    clear rs r01 hno hs hfs hcap small bw tb tb0 hg ex emn
    have W8 := s58 _ _ (s25 _ _ ((s1.trans s2) _ _ hW))
    tm_at "rzs"
    refine ⟨pB, _, rfl, .inl (sqL gB8), fun q9 H9 f9 s9 g9 => ?_⟩
    tm_at "rzs"
    refine ⟨W, _, rfl, .inl (sqL (s9 _ _ W8)), fun q10 H10 f10 s10 g10 => ?_⟩
    tm_at "rzs"
    refine ⟨q9, q10, _, bs.map (fun u => u * b), ws, rfl, s10 _ _ g9, g10, by rw [List.length_map]; exact lb, by omega, rs0, rs1, fun z hz => ?_, hw48, fun p2 r2 lv2 lvv2 fs2 H11 s11 np2 nr2 hp2 hr2 hl2 hlb2 hd2 => ?_⟩
    · obtain ⟨u, hu, rfl⟩ := List.mem_map.mp hz
      exact Int.mul_nonneg (hb _ hu).1 (Int.le_of_lt b0)
    have hwn : ∀ i, i < ws.length → 0 ≤ wAt ws i := fun i hi => Int.le_of_lt (hwp i hi).1
    have hfn : ∀ i, i < ws.length → 0 ≤ wAt (bs.map fun u => u * b) i := fun i hi => by rw [wAt_mul]; exact hcn i hi
    have s811 := (s9.trans s10).trans s11
    have gB11 := s811 _ _ gB8
    have gP11 := s811 _ _ gP8
    dsimp only [gName]
    show tSeq _ _ _ [some (.ref L), some (.int total), some (.ref pB), some (.ref W), some (.int t), some (.int b), some (.ref pP), some (.ref pp), some (.ref pD), some (.int ((bs.map fun u => u * b).sum + (ws.map fun u => t * u).sum - total * b)), some (.ref p2), none, none, none, none, none, none] H11
    tm_at "rzs"
    refine ⟨pB, pP, _, _, rfl, sqL gB11, sqL gP11, fun pE hpE => lcZf (K := K) (fun i => .int (wAt bs i * b)) (fun i => .int (t * wAt ws i)) (fun i => .int (t * wAt ws i)) (fun i => decide (wAt bs i * b < t * wAt ws i)) lX lZ hX hZ hpE (sqL gB11) (sqL gP11) (by omega) (fun i T H12 Kt Kf hi s12 gT yes no => ?_) (fun H12 s12 gE => ?_)⟩
    · refine ⟨_, _, rfl, sqT gT, rfl, ?_⟩
      tm_at "rzs"
      refine ite2 (fun e => ?_) (fun e => ?_)
      · tm_at "rzs"
        exact yes e _ (Same.refl _)
      · exact no (by simpa using e) _ (Same.refl _)
    have eE : ((List.range ws.length).filter fun i => decide (wAt bs i * b < t * wAt ws i)).map (fun i => V.int (t * wAt ws i)) = (((List.range ws.length).filter fun i => decide (wAt bs i * b < t * wAt ws i)).map fun i => t * wAt ws i).map V.int := by rw [List.map_map]; rfl
    rw [eE] at gE
    tm_at "rzs"
    intro p13 H13 f13 s13 g13
    refine ⟨_, _, _, [], rfl, rfl, sqL (s13 _ _ gE), sqL g13, ?_⟩
    have s1113 := s12.trans s13
    have hp13 := s1113 _ _ hp2
    have hr13 := s1113 _ _ hr2
    have hl13 := hl2.mono s1113
    have s813 := s811.trans s1113
    have gB13 := s813 _ _ gB8
    have gP13 := s813 _ _ gP8
    have hiff := open_iff (bs := bs) (ws := ws) (t := t) (b := b)
    tm_at "rzs"
    have s013 := ((s03.trans ((s4.trans s5))).trans s58).trans s813
    refine ite2 (fun e => ?_) (fun e => ?_)
    · obtain ⟨rfl, rfl⟩ := Lev.uniq hwn hfn hd2 (lno (hiff.mp (of_decide_eq_true e)))
      tm_at "rzs"
      intro p14 H14 f14 s14 g14
      refine ⟨_, _, dp_told (s14 _ _ hp13) (s14 _ _ hr13) (hl13.mono s14), dp_told g14 (s14 _ _ gB13) (show LvAt H14 none .non from rfl), told_shaped _ _, told_shaped _ _, ?_⟩
      rw [told_same]
      exact k _ (s013.trans s14)
    · have hex : ∃ i, i < ws.length ∧ wAt bs i * b < t * wAt ws i := Classical.not_not.mp fun z => e (decide_eq_true (hiff.mpr z))
      obtain ⟨rfl, rfl⟩ := Lev.uniq hwn hfn hd2 (lex hex)
      tm_at "rzs"
      refine ⟨pB, pP, _, _, rfl, sqL gB13, sqL gP13, fun pF hpF => lcZm (K := K) (fun i => .int (wAt bs i * b)) (fun i => .int (t * wAt ws i)) (fun i => .int (mx i)) lX lZ hX hZ hpF (sqL gB13) (sqL gP13) (by omega) (fun i T H14 Kt Kf hi s14 gT kk => ?_) (fun H14 s14 gF => ?_)⟩
      · refine ⟨_, _, rfl, sqT gT, rfl, ?_⟩
        rw [hmx] at kk
        unfold mxE at kk
        tm_at "rzs"
        exact kk _ (Same.refl _)
      have eF : (List.range ws.length).map (fun i => V.int (mx i)) = ((List.range ws.length).map mx).map V.int := by rw [List.map_map]; rfl
      rw [eF] at gF
      tm_at "rzs"
      intro r15 H15 f15 s15 g15
      tm_at "rzs"
      intro p16 H16 f16 s16 g16
      have s1416 := s15.trans s16
      have s1316 := s14.trans s1416
      refine ⟨_, _, dp_told (s1316 _ _ hp13) (s1316 _ _ hr13) (hl13.mono s1316), dp_told g16 (s1416 _ _ gF) (show LvAt H16 (some (t, 1)) (.ref r15) from ⟨r15, rfl, s16 _ _ g15⟩), told_shaped _ _, told_shaped _ _, ?_⟩
      rw [told_same]
      have s816 := s813.trans s1316
      have gp16 := s816 _ _ (s68 _ _ gp6)
      have gq16 := s816 _ _ (s68 _ _ gq6)
      have hp16 := s1316 _ _ hp13
      have hr16 := s1316 _ _ hr13
      have gB16 := s1316 _ _ gB13
      have gP16 := s1316 _ _ gP13
      have lM : (((List.range ws.length).map mn).map V.int).length = ws.length := by rw [List.length_map, List.length_map, List.length_range]
      have lN : (((List.range ws.length).map mx).map V.int).length = ws.length := by rw [List.length_map, List.length_map, List.length_range]
      have hM : ∀ i, i < ws.length → (((List.range ws.length).map mn).map V.int)[i]? = some (.int (mn i)) := fun i hi => by rw [List.getElem?_map, List.getElem?_map, range_get hi]; rfl
      have hN : ∀ i, i < ws.length → (((List.range ws.length).map mx).map V.int)[i]? = some (.int (mx i)) := fun i hi => by rw [List.getElem?_map, List.getElem?_map, range_get hi]; rfl
      tm_at "rzs"
      refine ⟨_, _, _, _, rfl, sqL gq16, sqL hr16, fun pG hpG => lcZm (K := K) (fun i => .int (mn i)) (fun i => .int (mx i)) (fun i => .int (wAt bs i * b + t * wAt ws i)) lM lN hM hN hpG (sqL gq16) (sqL hr16) (by omega) (fun i T H17 Kt Kf hi s17 gT kk => ?_) (fun H17 s17 gG => ?_)⟩
      · refine ⟨_, _, rfl, sqT gT, rfl, ?_⟩
        have e : wAt bs i * b + t * wAt ws i = mn i + mx i := by rw [hmn, mnE_eq, emx]; omega
        rw [e] at kk
        tm_at "rzs"
        exact kk _ (Same.refl _)
      have gB17 := s17 _ _ gB16
      have gP17 := s17 _ _ gP16
      tm_at "rzs"
      refine ⟨pB, pP, _, _, rfl, sqL gB17, sqL gP17, fun pI hpI => lcZm (K := K) (fun i => .int (wAt bs i * b)) (fun i => .int (t * wAt ws i)) (fun i => .int (wAt bs i * b + t * wAt ws i)) lX lZ hX hZ hpI (sqL gB17) (sqL gP17) (by omega) (fun i T H18 Kt Kf hi s18 gT kk => ?_) (fun H18 s18 gI => ?_)⟩
      · refine ⟨_, _, rfl, sqT gT, rfl, ?_⟩
        tm_at "rzs"
        exact kk _ (Same.refl _)
      have eG : (List.range ws.length).map (fun i => V.int (wAt bs i * b + t * wAt ws i)) = ((List.range ws.length).map fun i => wAt bs i * b + t * wAt ws i).map V.int := by rw [List.map_map]; rfl
      rw [eG] at gG gI
      refine ⟨_, _, _, _, rfl, rfl, sqL (s18 _ _ gG), sqL gI, ?_⟩
      rw [decide_eq_true rfl]
      exact k _ (((s013.trans s1316).trans s17).trans s18)
end
end My
namespace My
open PySem PySem.Spec PyProof.Rows L2
section
variable {P : Program} {w : World} {K : PySem.W.Frag} {mg : Str → Option Value} {base : Heap}
def sp_law (K : PySem.W.Frag) : Sp := fun vs H Q _ => ∃ (a : Addr) (ns : List Int), vs = [.ref a] ∧ SqL K H a (ns.map V.int) ∧ ns.length ≤ 63 ∧ ∀ H', Q (.bl true) H'
theorem ok_law (T : Tx K mg) : FnOk P w K mg base CX0 6 T.d_law.f T.d_law.fd ["_law_script"] (sp_law K) := by
  refine T.d_law.F.ok sc_law (fun vs H Q E h => ?_) (fun cdv A outer s H vs Q E hr h => ?_)
  · obtain ⟨a, s, rfl, _⟩ := h
    rfl
  · obtain ⟨a, ns, rfl, hS, hl, k⟩ := h
    refine ⟨_, (pss_cons (ps_for PassesOwn.never (by rfl) (pi_listK (K := K) rfl (pe_op (op_catK (K := K) rfl) (pe_lstA (pa_cons (pe_call (ok_w_cell_at T) (hr.mono (by decide)) (by rfl) T.d_w_cell_at.g T.d_w_cell_at.F.kp T.d_w_cell_at.b .nil pass0 (pa_cons (pv 0) (pa_cons pe_int pa_nil))) pa_nil)) (pe_slice (sl_listK (K := K) rfl) (pv 0) (po_some pe_int) (po_some pe_int)))) (pg_name (i := 1) sc_law.nd rfl (Or.inl rfl))
      (pss_cons (ps_set (i := 2) sc_law.nd rfl (Or.inr rfl) (pe_call (ok_w_source T) (hr.mono (by decide)) (by rfl) T.d_w_source.g T.d_w_source.F.kp T.d_w_source.b .nil pass0 (pa_cons (pv 1) pa_nil)))
      (pss_cons (ps_set (i := 3) sc_law.nd rfl (Or.inl rfl) (pe_op op_add pe_int (pe_call (ok_w_next T) (hr.mono (by decide)) (by rfl) T.d_w_next.g T.d_w_next.F.kp T.d_w_next.b .nil pass0 (pa_cons (pv 2) (pa_cons pe_int pa_nil)))))
      (pss_cons (ps_set (i := 4) sc_law.nd rfl (Or.inl rfl) (pe_call (ok_w_bounds T) (hr.mono (by decide)) (by rfl) T.d_w_bounds.g T.d_w_bounds.F.kp T.d_w_bounds.b .nil pass0 (pa_cons (pv 2) (pa_cons (pv 3) pa_nil))))
      (pss_cons (ps_set (i := 5) sc_law.nd rfl (Or.inr rfl) (pe_ix (ix_listK (K := K) rfl) (pe_lstA (pa_cons pe_int (pa_cons pe_int (pa_cons pe_int pa_nil)))) (pe_call (ok_w_next T) (hr.mono (by decide)) (by rfl) T.d_w_next.g T.d_w_next.F.kp T.d_w_next.b .nil pass0 (pa_cons (pv 2) (pa_cons pe_int pa_nil))) (fun _ _ => rfl)))
      (pss_cons (ps_setLc (i := 6) (own := [("_law_k", 11)]) (g := gName 11) (by rfl) sc_law.nd rfl rfl (sw_true rfl rfl rfl (by decide +kernel)) (pi_range1 (by rfl) T.b_range (pa_cons (pv 3) pa_nil)) (blkOk_by (own := [("_law_k", 11)]) (N := N_law) (sc := defScope s_law) (by decide +kernel)) (fun _ _ _ _ _ => (pg_name (i := 11) sc_law.nd rfl (Or.inl rfl))) (fun _ _ _ _ _ => pts_nil) (fun _ _ _ _ _ => (pe_op op_add pe_int (pe_call (ok_w_next T) (hr.mono (by decide)) (by rfl) T.d_w_next.g T.d_w_next.F.kp T.d_w_next.b .nil pass0 (pa_cons (pv 2) (pa_cons (pv 5) pa_nil))))))
      (pss_cons (ps_set (i := 7) sc_law.nd rfl (Or.inl rfl) (pe_call (ok_w_total T) (hr.mono (by decide)) (by rfl) T.d_w_total.g T.d_w_total.F.kp T.d_w_total.b .nil pass0 (pa_cons (pv 2) (pa_cons (pv 4) pa_nil))))
      (pss_cons (ps_asg (pe_call (ok_dealt T) (hr.mono (by decide)) (by rfl) T.d_dealt.g T.d_dealt.F.kp T.d_dealt.b .nil pass0 (pa_cons (pv 7) (pa_cons (pe_callTy (call_listK (K := K) rfl) (by rfl) T.b_list (by decide +kernel) (pa_cons (pv 4) pa_nil)) (pa_cons (pe_callTy (call_listK (K := K) rfl) (by rfl) T.b_list (by decide +kernel) (pa_cons (pv 6) pa_nil)) pa_nil)))) (pg_tup (by rfl) (pgs_cons (pg_name (i := 8) sc_law.nd rfl (Or.inl rfl)) (pgs_cons (pg_name (i := 9) sc_law.nd rfl (Or.inl rfl)) pgs_nil))))
      (pss_cons (ps_if (pt_cmpR op_ne (pe_cmpR op_isN (pv 8) pe_non (nomark _)) (pe_cmpR op_le (pe_callB (cr_sumK (K := K) rfl rfl) (by rfl) T.b_sum (by decide +kernel) (pa_cons (pv 4) pa_nil)) (pv 7) (nomark _)) (nomark _))
      (pss_one (ps_ret pe_bl))
      pss_nil)
      (pss_cons (ps_if (PW.pt (pw_and (pt_cmpR op_notN (pv 8) pe_non (nomark _)) (pw_and1 (pt_not (pt_val (pe_call (ok_w_exact_right T) (hr.mono (by decide)) (by rfl) T.d_w_exact_right.g T.d_w_exact_right.F.kp T.d_w_exact_right.b .nil pass0 (pa_cons (pv 8) (pa_cons (pv 7) (pa_cons (pv 4) (pa_cons (pv 6) pa_nil))))))))))
      (pss_one (ps_ret pe_bl))
      pss_nil)
      (pss_one (ps_if (pt_cmpR op_isN (pv 8) pe_non (nomark _))
      (pss_cons (ps_set (i := 10) sc_law.nd rfl (Or.inl rfl) (pe_call (ok_levelled T) (hr.mono (by decide)) (by rfl) T.d_levelled.g T.d_levelled.F.kp T.d_levelled.b .nil pass0 (pa_cons (pe_callB (cr_sumK (K := K) rfl rfl) (by rfl) T.b_sum (by decide +kernel) (pa_cons (pv 4) pa_nil)) (pa_cons (pe_callTy (call_listK (K := K) rfl) (by rfl) T.b_list (by decide +kernel) (pa_cons (pv 4) pa_nil)) (pa_cons (pe_callTy (call_listK (K := K) rfl) (by rfl) T.b_list (by decide +kernel) (pa_cons (pv 6) pa_nil)) pa_nil)))))
      (pss_one (ps_if (PW.pt (pw_or (pt_cmpR (op_neIsK (K := K) hr.units rfl) (pv 9) (pv 4) (nomark _)) (pw_or1 (pt_cmpR (op_neDK (K := K) hr.units rfl) (pv 10) (pe_tupA (pa_cons pe_non (pa_cons (pv 4) pa_nil))) (nomark _)))))
      (pss_one (ps_ret pe_bl))
      pss_nil)))
      pss_nil))))))))))))
      (pss_one (ps_ret pe_bl))), ?_⟩
    tm_at "rzs"
    intro p0 G0 f0 S0 g0
    tm_at "rzs"
    refine ⟨a, _, rfl, S0.seq hS, ?_⟩
    intro p1 G1 f1 S1 g1
    refine ⟨_, _, _, _, rfl, rfl, S1 _ _ g0, g1, cells_len hl, ?_⟩
    intro p2 G2 f2 S2 g2
    generalize hcs : ([V.int (ns.headD 0)] ++ cutV (ns.map V.int) (some 1) (some 8)) = cells at g2
    have hci : ∀ i y, cells[i]? = some y → ∃ z, y = V.int z := fun i y h => cells_ints (by rw [hcs]; exact h)
    refine ⟨_, rfl, ⟨_, sqL g2⟩, for_list (K := K) (a := p2) (xs := cells) (fun i σ H3 => ∃ v1 v2 v3 v4 v5 v6 v7 v8 v9 v10 v11, σ = [some (.ref a), v1, v2, v3, v4, v5, v6, v7, v8, v9, v10, v11] ∧ H3 p2 = some (.lst cells))
      ⟨_, _, _, _, _, _, _, _, _, _, _, rfl, g2⟩ (fun i σ H3 _ ⟨_, _, _, _, _, _, _, _, _, _, _, _, q⟩ => sqL q) ?_ ?_⟩
    · rintro i y σ H3 hi ⟨v1, v2, v3, v4, v5, v6, v7, v8, v9, v10, v11, rfl, q3⟩
      obtain ⟨z, rfl⟩ := hci i y hi
      tm_at "rzs"
      intro s H4 f4 S4 g4
      have hs4 : Src H4 s := ⟨_, g4⟩
      have np2 : p2 ≠ s := ne_of_none q3 f4
      tm_at "rzs"
      intro n5 H5 d5 l5 u5
      obtain ⟨mn, hmn⟩ : ∃ m : Nat, 1 + n5 = (m : Int) := ⟨(1 + n5).toNat, by omega⟩
      have hm12 : mn ≤ 12 := by omega
      have hm1 : 1 ≤ mn := by omega
      tm_at "rd"
      dsimp only [gName]
      rw [hmn]
      show tSeq _ _ _ [some (.ref a), some (.int z), some (.ref s), some (.int (mn : Int)), v4, v5, v6, v7, v8, v9, v10, v11] H5
      tm_at "rzs"
      intro B bs H6 d6 fB nB gB lB hB
      tm_at "rzs"
      intro p7 H7 f7 S7 g7
      have np7 : p7 ≠ s := d6.s.ne f7
      tm_at "rzs"
      intro n8 H8 d8 l8 u8
      obtain ⟨x, hx, far, rfl, far0, far1⟩ := pick3 (P := InR 1 100) l8 u8 ⟨2, rfl, by decide, by decide⟩ ⟨9, rfl, by decide, by decide⟩ ⟨99, rfl, by decide, by decide⟩
      refine ⟨_, _, _, _, rfl, rfl, sqL (d8.app np7 g7), hx, ?_⟩
      have d68 := (Dr.of d6.s S7).trans d8
      have gB8 := d68.app nB gB
      refine ⟨_, rfl, _, rfl, by omega, by omega, fun D hD => lcRd (n := mn) V.int (fun _ u => 0 < u ∧ u < 100) d8.s hD (by omega) (fun i H' Kt Kf hi' dp kk => ?_) (fun ws H9 d9 hwl hwb nW gW => ?_)⟩
      · tm_at "rzs"
        intro u H12 d12 l12 u12
        tm_at "rzs"
        exact kk (1 + u) H12 d12 ⟨by omega, by omega⟩
      have hw : ∀ u ∈ ws, 0 < u ∧ u < 100 := fun u hu => by
        obtain ⟨i, hi⟩ := List.getElem?_of_mem hu
        exact hwb i u hi
      have gB9 := d9.app nB gB8
      have lb : bs.length = ws.length := by omega
      tm_at "rzs"
      refine ⟨s, B, bs, rfl, d9.s, nB, gB9, by omega, hB, fun tot H10 d10 tot0 tot1 => ?_⟩
      have gB10 := d10.app nB gB9
      have gW10 := d10.app nW gW
      have q10 : H10 p2 = some (.lst cells) := ((((d5.trans d6).trans d68).trans d9).trans d10).app np2 (S4 _ _ q3)
      tm_at "rzs"
      refine ⟨B, _, rfl, .inl (sqL gB10), fun b1 H11 f11 s11 g11 => ?_⟩
      tm_at "rzs"
      refine ⟨D, _, rfl, .inl (sqL (s11 _ _ gW10)), fun w1 H12 f12 s12 g12 => ?_⟩
      have eC : bs.map V.int = (bs.map some).map optI := by rw [List.map_map]; rfl
      have g11' : H12 b1 = some (.lst ((bs.map some).map optI)) := by rw [← eC]; exact s12 _ _ g11
      have hw48 : ∀ z ∈ ws, 0 ≤ z ∧ z < 2 ^ 48 := fun z hz => by have := hw z hz; omega
      have hwp : ∀ i, i < ws.length → 0 < wAt ws i := fun i hi => (hw _ (wAt_mem hi)).1
      tm_at "rzs"
      refine ⟨b1, w1, tot, bs.map some, ws, rfl, g11', g12, by rw [List.length_map]; exact lb, by omega, tot0, by omega, fun z hz => ?_, hw48, fun F q lv lvv fs H13 s13 nF nq gF gq hlv hlb dd => ?_⟩
      · obtain ⟨u, hu, e⟩ := List.mem_map.mp hz
        cases e
        exact (hB _ hu).1
      refine ⟨_, _, rfl, sqT gF, rfl, ?_⟩
      have s1013 := (s11.trans s12).trans s13
      have gB13 := s1013 _ _ gB10
      have gW13 := s1013 _ _ gW10
      have q13 := s1013 _ _ q10
      have sb := sum_bounds bs hB
      dsimp only [gCons, gNil, gName]
      refine ⟨_, _, rfl, _, _, rfl, rfl, ?_⟩
      show tSeq _ _ _ [some (.ref a), some (.int z), some (.ref s), some (.int (mn : Int)), some (.ref B), some (.int far), some (.ref D), some (.int tot), some lvv, some (.ref q), v10, v11] H13
      cases lv with
      | none =>
        obtain ⟨hle, rfl⟩ := dealt_none lb hwp dd
        have e : lvv = .non := hlv
        subst e
        tm_at "rzs"
        refine ⟨B, _, rfl, sqL gB13, ?_⟩
        tm_at "rzs"
        refine iteF' (by simp [hle]) ?_
        tm_at "rzs"
        refine ⟨B, _, rfl, sqL gB13, ?_⟩
        tm_at "rzs"
        refine ⟨B, _, rfl, .inl (sqL gB13), fun b2 H14 f14 s14 g14 => ?_⟩
        tm_at "rzs"
        refine ⟨D, _, rfl, .inl (sqL (s14 _ _ gW13)), fun w2 H15 f15 s15 g15 => ?_⟩
        tm_at "rzs"
        refine ⟨b2, w2, fs.sum, fs, ws, rfl, s15 _ _ g14, g15, lb, by omega, sb.1, by omega, fun z hz => (hB z hz).1, hw48, fun p3 r3 lv3 lvv3 fs3 H16 s16 np3 nr3 hp3 hr3 hl3 hlb3 hd3 => ?_⟩
        obtain ⟨rfl, rfl⟩ := Lev.uniq (fun i hi => Int.le_of_lt (hwp i hi)) (fun i hi => (hB _ (wAt_mem (by omega))).1) hd3 (lev_flat lb)
        have s1316 := (s14.trans s15).trans s16
        tm_at "rzs"
        refine ⟨_, _, _, _, rfl, rfl, sqL (s1316 _ _ gq), sqL (s1316 _ _ gB13), ?_⟩
        rw [decide_eq_true rfl]
        tm_at "rzs"
        intro p17 H17 f17 s17 g17
        refine ⟨_, _, dp_told (s17 _ _ hp3) (s17 _ _ hr3) (hl3.mono s17), dp_told g17 (s17 _ _ (s1316 _ _ gB13)) (show LvAt H17 none .non from rfl), told_shaped _ _, told_shaped _ _, ?_⟩
        rw [told_same]
        tm_at "rzs"
        exact ⟨_, _, _, _, _, _, _, _, _, _, _, rfl, s17 _ _ (s1316 _ _ q13)⟩
      | some tb =>
        obtain ⟨t, b⟩ := tb
        have hnle := dealt_some lb hwp dd
        obtain ⟨r, rfl, hr⟩ := hlv
        tm_at "rzs"
        refine ⟨B, _, rfl, sqL gB13, ?_⟩
        tm_at "rzs"
        refine iteF' (by simp [hnle]) ?_
        tm_at "rzs"
        refine ⟨r, B, D, t, b, tot, bs, ws, fs, rfl, hr, gB13, gW13, lb, by omega, hB, hw, tot0, tot1, dd, fun H14 s14 => ?_⟩
        tm_at "rzs"
        exact ⟨_, _, _, _, _, _, _, _, _, _, _, rfl, s14 _ _ q13⟩
    · rintro σ H3 ⟨v1, v2, v3, v4, v5, v6, v7, v8, v9, v10, v11, rfl, q3⟩
      exact k _
end
end My
namespace My
open PySem L2
theorem law_end {l : PySem.W.OpenLaw} {w : World} {K : PySem.W.Frag} {mg : Str → Option Value} {fa : Addr} (hfa : mg "law" = some (.ref fa)) (T : Tx K mg) :
    ∃ fd : FuncData, (∀ (s : Shared) (v : Value), BindsTo s fd ⟨[v], []⟩ [("_law_script", v)]) ∧ ∀ base : Heap, K.In base → base.Ns mainGlobals mg → FnOk l.prog w K mg base CX0 6 fa fd ["_law_script"] (sp_law K) := by
  have e := hfa.symm.trans T.d_law.g
  cases e
  refine ⟨T.d_law.fd, fun s v => ?_, fun base _ _ => ok_law T⟩
  obtain ⟨oc, od, kV, doc, pm, an, cdv, ct, osl, e, _, _⟩ := T.d_law.F.ex
  rw [e]
  exact .of_eq rfl
end My
open PySem PySem.W PyProof.Rows
set_option maxRecDepth 100000 in
set_option maxHeartbeats 0 in
theorem PySem.Challenge.cw_nestlaid_k07_whole_one_level_from_both_s_holds : PySem.Challenge.rw_nestlaid_k07_whole_one_level_from_both_s.Holds := by
  w_on; o_law; k_head; (case hw => w_witness2)
  k_fill
  refine L2.walk_of (l := PySem.Challenge.rw_nestlaid_k07_whole_one_level_from_both_s) (n := 63) (k := 6) (x := "_law_script") (CX := fun _ => L2.CX0) (sp := fun w => My.sp_law _) rfl (by decide) rfl ⟨rfl, by decide, by decide⟩ (fun w h Y => PySem.W.kIn_of Y) ?F (fun _ _ a ns hl _ hS => ⟨a, ns, rfl, hS, hl, fun _ => rfl⟩) (fun _ _ _ _ _ h => h)
  case F =>
    intro w mg fa h KX G hmg
    refine' My.law_end hmg { d_is_whole := My.df_mk KX G ?a1 ?l1 ?c1 ?k1 (fun _ _ _ _ _ _ us hl => match us, hl with | [_], _ => rfl), d_is_from_nought := My.df_mk KX G ?a2 ?l2 ?c2 ?k2 (fun _ _ _ _ _ _ us hl => match us, hl with | [_], _ => rfl), d_check_total := My.df_mk KX G ?a3 ?l3 ?c3 ?k3 (fun _ _ _ _ _ _ us hl => match us, hl with | [_], _ => rfl), d_check_weights := My.df_mk KX G ?a4 ?l4 ?c4 ?k4 (fun _ _ _ _ _ _ us hl => match us, hl with | [_, _], _ => rfl), d_lowest := My.df_mk KX G ?a5 ?l5 ?c5 ?k5 (fun _ _ _ _ _ _ us hl => match us, hl with | [_, _], _ => rfl), d_running := My.df_mk KX G ?a6 ?l6 ?c6 ?k6 (fun _ _ _ _ _ _ us hl => match us, hl with | [_, _, _], _ => rfl), d_dealt_parts := My.df_mk KX G ?a7 ?l7 ?c7 ?k7 (fun _ _ _ _ _ _ us hl => match us, hl with | [_, _, _], _ => rfl), d_levelled_parts := My.df_mk KX G ?a8 ?l8 ?c8 ?k8 (fun _ _ _ _ _ _ us hl => match us, hl with | [_, _, _], _ => rfl), d_dealt := My.df_mk KX G ?a9 ?l9 ?c9 ?k9 (fun _ _ _ _ _ _ us hl => match us, hl with | [_, _, _], _ => rfl), d_levelled := My.df_mk KX G ?a10 ?l10 ?c10 ?k10 (fun _ _ _ _ _ _ us hl => match us, hl with | [_, _, _], _ => rfl), d_w_cell_at := My.df_mk KX G ?a11 ?l11 ?c11 ?k11 (fun _ _ _ _ _ _ us hl => match us, hl with | [_, _], _ => rfl), d_w_mixed := My.df_mk KX G ?a12 ?l12 ?c12 ?k12 (fun _ _ _ _ _ _ us hl => match us, hl with | [_, _], _ => rfl), d_w_source := My.df_mk KX G ?a13 ?l13 ?c13 ?k13 (fun _ _ _ _ _ _ us hl => match us, hl with | [_], _ => rfl), d_w_next := My.df_mk KX G ?a14 ?l14 ?c14 ?k14 (fun _ _ _ _ _ _ us hl => match us, hl with | [_, _], _ => rfl), d_w_bounds := My.df_mk KX G ?a15 ?l15 ?c15 ?k15 (fun _ _ _ _ _ _ us hl => match us, hl with | [_, _], _ => rfl), d_w_total := My.df_mk KX G ?a16 ?l16 ?c16 ?k16 (fun _ _ _ _ _ _ us hl => match us, hl with | [_, _], _ => rfl), d_w_exact_right := My.df_mk KX G ?a17 ?l17 ?c17 ?k17 (fun _ _ _ _ _ _ us hl => match us, hl with | [_, _, _, _], _ => rfl), d_law := My.df_mk KX G ?a18 ?l18 ?c18 ?k18 (fun _ _ _ _ _ _ us hl => match us, hl with | [_], _ => rfl), b_all := PySem.W.mg_none_of KX G ?z_all, b_bool := PySem.W.mg_none_of KX G ?z_bool, b_enumerate := PySem.W.mg_none_of KX G ?z_enumerate, b_int := PySem.W.mg_none_of KX G ?z_int, b_isinstance := PySem.W.mg_none_of KX G ?z_isinstance, b_len := PySem.W.mg_none_of KX G ?z_len, b_list := PySem.W.mg_none_of KX G ?z_list, b_max := PySem.W.mg_none_of KX G ?z_max, b_min := PySem.W.mg_none_of KX G ?z_min, b_range := PySem.W.mg_none_of KX G ?z_range, b_sum := PySem.W.mg_none_of KX G ?z_sum, b_zip := PySem.W.mg_none_of KX G ?z_zip }
    (case a1 => k_is)
    (case l1 => k_is)
    (case c1 => k_is)
    (case k1 => k_is)
    (case a2 => k_is)
    (case l2 => k_is)
    (case c2 => k_is)
    (case k2 => k_is)
    (case a3 => k_is)
    (case l3 => k_is)
    (case c3 => k_is)
    (case k3 => k_is)
    (case a4 => k_is)
    (case l4 => k_is)
    (case c4 => k_is)
    (case k4 => k_is)
    (case a5 => k_is)
    (case l5 => k_is)
    (case c5 => k_is)
    (case k5 => k_is)
    (case a6 => k_is)
    (case l6 => k_is)
    (case c6 => k_is)
    (case k6 => k_is)
    (case a7 => k_is)
    (case l7 => k_is)
    (case c7 => k_is)
    (case k7 => k_is)
    (case a8 => k_is)
    (case l8 => k_is)
    (case c8 => k_is)
    (case k8 => k_is)
    (case a9 => k_is)
    (case l9 => k_is)
    (case c9 => k_is)
    (case k9 => k_is)
    (case a10 => k_is)
    (case l10 => k_is)
    (case c10 => k_is)
    (case k10 => k_is)
    (case a11 => k_is)
    (case l11 => k_is)
    (case c11 => k_is)
    (case k11 => k_is)
    (case a12 => k_is)
    (case l12 => k_is)
    (case c12 => k_is)
    (case k12 => k_is)
    (case a13 => k_is)
    (case l13 => k_is)
    (case c13 => k_is)
    (case k13 => k_is)
    (case a14 => k_is)
    (case l14 => k_is)
    (case c14 => k_is)
    (case k14 => k_is)
    (case a15 => k_is)
    (case l15 => k_is)
    (case c15 => k_is)
    (case k15 => k_is)
    (case a16 => k_is)
    (case l16 => k_is)
    (case c16 => k_is)
    (case k16 => k_is)
    (case a17 => k_is)
    (case l17 => k_is)
    (case c17 => k_is)
    (case k17 => k_is)
    (case a18 => k_is)
    (case l18 => k_is)
    (case c18 => k_is)
    (case k18 => k_is)
    (case z_all => k_is)
    (case z_bool => k_is)
    (case z_enumerate => k_is)
    (case z_int => k_is)
    (case z_isinstance => k_is)
    (case z_len => k_is)
    (case z_list => k_is)
    (case z_max => k_is)
    (case z_min => k_is)
    (case z_range => k_is)
    (case z_sum => k_is)
    (case z_zip => k_is)
#print axioms PySem.Challenge.cw_nestlaid_k07_whole_one_level_from_both_s_holds
