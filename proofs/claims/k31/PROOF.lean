import PyProof.Rows.All
import Wide.All
import OpenK.AllK
import Wide.FinOn
import HandS.ForMost
import HandS.ForExc
import HandS.Wide
import HandS.IsInst
import HandS.Defaults
import HandS.MakeKwOnly
import HandS.Flow
import HandS.EndBits
import HandS.Style
import HandS.Conv
import HandS.Deep
import HandS.ExcIs
import HandS.ExcOwn
import HandS.WordsExc
import HandS.DeepEq
import HandS.More
import PySem.Challenge.RW_nestlaid_k31_what_are_no_tracks
set_option Elab.async false
set_option linter.all false
set_option maxRecDepth 100000
set_option maxHeartbeats 4000000
namespace My
open PySem PySem.Spec PyProof.Rows L2
/-! ### a def of the top, with its facts -/
structure Df (K : PySem.W.Frag) (mg : Str → Option Value) (x : Str) (st : Stmt) (ps : List Str) where
  f : Addr
  fd : FuncData
  F : Fun K x x st f fd
  b : Binds K fd ps []
  g : mg x = some (.ref f)
def df_mk {K : PySem.W.Frag} {mg : Str → Option Value} {x : Str} {st : Stmt} {ps : List Str} {h : Heap} (X : K.In h) (G : h.Ns mainGlobals mg) {f : Addr} {oc : Value} {od an : Option Addr} {osl : Array (Option Value)} {kV doc pm cdv ct : Value}
    (a : PySem.W.nsIn K mainGlobals x = some (some (.ref f))) (l : K.lookup f = some ⟨oc, od, .func (PySem.W.fnOf x x (defArgs st) (defBody st) (defScope st) .none kV doc pm an cdv ct), osl⟩)
    (c : PySem.W.codeIn K cdv x = true) (k : PySem.W.keepIn K (.ref f) = true)
    (hb : ∀ (kV doc pm : Value) (an : Option Addr) (cdv ct : Value) (us : List Value), us.length = ps.length → bindArgs (PySem.W.fnOf x x (defArgs st) (defBody st) (defScope st) .none kV doc pm an cdv ct) ⟨us, []⟩ = pure (ps.zip us)) : Df K mg x st ps :=
  ⟨f, _, fun_mk l c k, (fun_mk l c k).binds hb, PySem.W.mg_of X G a⟩
/-! ### calls by keywords alone -/
theorem vals_getD : ∀ {zs : List V} {ws : List Value}, Vals zs ws → ∀ i : Nat, RelV (zs.getD i .non) (ws.getD i .none)
  | _, _, .nil, i => rfl
  | _, _, .cons r t, 0 => r
  | _, _, .cons r t, i + 1 => by simpa using vals_getD t i
section
variable {X : Cx} {CX : CXT} {k n : Nat} {f C : Addr} {fd : FuncData} {ps ks : List Str} {sp : Sp} {E : XK} {x : Str} {p pos : Pos} {kws : List Keyword} {t tk : TA} {g : List Value → List Value → List Value} {gV : List V → List V → List V}
/-- f(k = v, ..) -/
theorem pe_callN0 (F : FnOk X.prog X.w X.K X.mg X.base CX k f fd ps sp) (hr : Room k X.A) (hg : Gl X x) (hm : X.mg x = some (.ref f)) (hk : PySem.W.keepIn X.K (.ref f) = true) (hb : KBn X.K fd ps 0 ks g gV) (hx : Passes CX X E) (hkw : PK X kws tk)
    (hall : (backToKw pos (keywordEach kws X.env)).all (·.1.isSome) = true := by rfl) (hks : (backToKw pos (keywordEach kws X.env)).filterMap (·.1) = ks := by rfl) (hdb : (x == ("__debug__" : Str)) = false := by decide)
    (hpl : ((backTo pos (starEach [] X.env)).any (·.1) || (backToKw pos (keywordEach kws X.env)).any (·.1.isNone)) = false := by rfl) :
    PE X (.Call (.Name x p) [] kws pos) (tCallN 0 ks.length sp gV E tNil tk) := by
  refine ⟨fun pins s σ H Q I h => ?_⟩
  refine wpAny_Call_Name_kw (ld_glob I hg hm ?_ hdb)
  refine PySem.W.callWith_KW0 (h₀ := X.base) I.ok.mod.kin hk hall ?_ hpl
  refine thn (hkw.run pos pins s σ H _ I h) fun ws s2 ⟨zs, H2, I2, rz, l1, l2, q2⟩ => ⟨I2.kIn, ?_⟩
  rw [hks]
  exact run_fnN (us := []) (vs := []) F hr hb hx I2 .nil rz rfl l2 q2
end
/-! ### heaps -/
/-- all that was tracked but at a is as it was -/
def But (a : Addr) (H H' : Hp) : Prop := ∀ b o, b ≠ a → H b = some o → H' b = some o
theorem But.app {a b : Addr} {H H' : Hp} {o : HO} (s : But a H H') (n : b ≠ a) (h : H b = some o) : H' b = some o := s _ _ n h
theorem But.refl {a : Addr} {H : Hp} : But a H H := fun _ _ _ h => h
theorem But.trans {a : Addr} {H H1 H2 : Hp} (s : But a H H1) (t : But a H1 H2) : But a H H2 := fun b o n h => t b o n (s b o n h)
theorem But.upd {a : Addr} {H H1 : Hp} {o : HO} (s : But a H H1) : But a H (upd H1 a o) := fun b u n h => by
  rw [upd_ne n]
  exact s b u n h
theorem But.new {a p : Addr} {H H1 : Hp} {o : HO} (s : But a H H1) (h : H1 p = none) : But a H (L2.upd H1 p o) := fun b u n e => by
  have e1 := s b u n e
  rw [upd_ne (ne_of_none e1 h)]
  exact e1
theorem Same.but {a : Addr} {H H1 : Hp} (s : Same H H1) : But a H H1 := fun b u n h => s b u h
theorem Same.app {b : Addr} {H H' : Hp} {o : HO} (s : Same H H') (h : H b = some o) : H' b = some o := s _ _ h
theorem Same.new {H H1 : Hp} {p : Addr} {o : HO} (s : Same H H1) (h : H1 p = none) : Same H (upd H1 p o) := fun b u e => by
  have e1 := s b u e
  rw [upd_ne (ne_of_none e1 h)]
  exact e1
theorem Same.mut {H H1 : Hp} {p : Addr} {o : HO} (s : Same H H1) (h : H p = none) : Same H (upd H1 p o) := fun b u e => by
  rw [upd_ne (ne_of_none e h)]
  exact s b u e
theorem But.seq {K : PySem.W.Frag} {H H' : Hp} {a b : Addr} {xs : List V} (e : But a H H') (n : b ≠ a) (h : SqL K H b xs) : SqL K H' b xs := by
  rcases h with (h | ⟨o, h⟩) | h
  · exact .inl (.inl (e _ _ n h))
  · exact .inl (.inr ⟨o, e _ _ n h⟩)
  · exact .inr h
theorem upd_keep {H : Hp} {a p : Addr} {o u : HO} (n : H p = none) (h : H a = some o) : upd H p u a = some o := (upd_ne (ne_of_none h n)).trans h
theorem Same.upd0 {H : Hp} {p : Addr} {o : HO} (n : H p = none) : Same H (upd H p o) := fun b u e => upd_keep n e
theorem sqL {K : PySem.W.Frag} {H : Hp} {a : Addr} {xs : List V} (h : H a = some (.lst xs)) : SqL K H a xs := .inl (.inl h)
theorem sqT {K : PySem.W.Frag} {H : Hp} {a : Addr} {xs : List V} (h : H a = some (.tup xs)) : SqT K H a xs := .inl (.inl h)
/-! ### new and changed objects, the heap behind them by a name -/
def New (H : Hp) (o : HO) (Q : VK) : Prop := ∀ p H', H p = none → Same H H' → H' p = some o → Q (.ref p) H'
theorem New.go {H : Hp} {o : HO} {Q : VK} (h : New H o Q) : ∀ p, H p = none → Q (.ref p) (upd H p o) := fun p n => h p _ n (Same.upd0 n) upd_same
/-- what stands at l becomes o -/
def Set1 (H : Hp) (l : Addr) (o : HO) (q : Hp → Prop) : Prop := ∀ H', But l H H' → H' l = some o → q H'
theorem Set1.go {H : Hp} {l : Addr} {o : HO} {q : Hp → Prop} (h : Set1 H l o q) : q (upd H l o) := h _ But.refl.upd upd_same
theorem pe_imp {X : Cx} {e : Expr} {t t' : TE} (h : PE X e t) (i : ∀ σ H Q, t' σ H Q → t σ H Q) : PE X e t' := ⟨fun pins s σ H Q I h' => h.run pins s σ H Q I (i _ _ _ h')⟩
theorem opR_imp {X : Cx} {f : Value → Value → Sem Value} {r r' : R2} (h : OpR X f r) (i : ∀ x y H Q, r' x y H Q → r x y H Q) : OpR X f r' := fun pins s σ H x y v u Q I rx ry q => h pins s σ H x y v u Q I rx ry (i _ _ _ _ q)
theorem callR_imp {X : Cx} {f : Value} {r r' : List V → Hp → VK → Prop} (h : CallR X f r) (i : ∀ xs H Q, r' xs H Q → r xs H Q) : CallR X f r' := fun pins s σ H xs us Q I rx q => h pins s σ H xs us Q I rx (i _ _ _ q)
theorem slR_imp {X : Cx} {r r' : V → Option Int → Option Int → Hp → VK → Prop} (h : SlR X r) (i : ∀ x lo hi H Q, r' x lo hi H Q → r x lo hi H Q) : SlR X r' := fun pins s σ H x v vl vu lo hi sl Q I rx a b c q => h pins s σ H x v vl vu lo hi sl Q I rx a b c (i _ _ _ _ _ q)
theorem mtM_imp {X : Cx} {id : String} {r r' : V → List V → Hp → VK → Prop} (h : MtM X id r) (i : ∀ x xs H Q, r' x xs H Q → r x xs H Q) : MtM X id r' := fun pins s σ H x xs v us Q I rx rv q => h pins s σ H x xs v us Q I rx rv (i _ _ _ _ q)
theorem pSet_imp {X : Cx} {r r' : TSet} (h : PSet X r) (i : ∀ x y z H Q, r' x y z H Q → r x y z H Q) : PSet X r' := fun pins s σ H o i' v ov iv u Q I a b c q => h pins s σ H o i' v ov iv u Q I a b c (i _ _ _ _ _ q)
section
variable {X : Cx} {es : List Expr} {t : TA} {pos : Pos}
/-- a tuple, a list -/
def tTupA (t : TA) : TE := fun σ H Q => t σ H fun xs H1 => xs.length ≤ sizeLine ∧ New H1 (.tup xs) Q
def tLstA (t : TA) : TE := fun σ H Q => t σ H fun xs H1 => xs.length ≤ sizeLine ∧ New H1 (.lst xs) Q
theorem pe_tupA {x1} (h : PA X es t) : PE X (.Tuple es x1 pos) (tTupA t) := by
  refine ⟨fun pins s σ H Q I hq => ?_⟩
  refine wpAny_Tuple_spliced (thn (h.run pos pins s σ H _ I hq) fun us s1 ⟨xs, H1, I1, r, z, q⟩ => ⟨by rw [← r.length]; exact z, ?_⟩)
  have hf : H1 s1.heap.objs.size = none := I1.hok.fresh (Nat.le_refl _)
  refine ⟨.ref s1.heap.objs.size, upd H1 s1.heap.objs.size (.tup xs), I1.laid (t' := s1.toks) (fun b u e => Heap.get?_push_of_some _ e) (Nat.le_refl _) ?_, rfl, q.go _ hf⟩
  exact ⟨z, us, r, ⟨_, Heap.get?_push_size _ rfl, rfl, _, rfl⟩⟩
theorem pe_lstA (h : PA X es t) : PE X (.List es pos) (tLstA t) := by
  refine ⟨fun pins s σ H Q I hq => ?_⟩
  refine wpAny_List_spliced (thn (h.run pos pins s σ H _ I hq) fun us s1 ⟨xs, H1, I1, r, z, q⟩ => ⟨by rw [← r.length]; exact z, ?_⟩)
  have hf : H1 s1.heap.objs.size = none := I1.hok.fresh (Nat.le_refl _)
  refine ⟨.ref s1.heap.objs.size, upd H1 s1.heap.objs.size (.lst xs), I1.laid (t' := s1.toks) (fun b u e => Heap.get?_push_of_some _ e) (Nat.le_refl _) ?_, rfl, q.go _ hf⟩
  exact ⟨z, us, 0, r, Heap.get?_push_size _ rfl⟩
def tDNewA : TE := fun _ H Q => New H (.dK []) Q
theorem pe_dnewA : PE X (.Dict [] [] pos) tDNewA := pe_imp pe_dnewK fun _ _ _ h => h.go
/-- list + list, list * n -/
def rCatA (K : PySem.W.Frag) : R2 := fun x y H Q => ∃ l b xs zs, x = .ref l ∧ y = .ref b ∧ H l = some (.lst xs) ∧ H b = some (.lst zs) ∧ xs.length + zs.length ≤ sizeLine ∧ New H (.lst (xs ++ zs)) Q
theorem op_catA : OpR X (binaryOp .Add) (rCatA X.K) := opR_imp op_cat fun _ _ _ _ ⟨l, b, xs, zs, e1, e2, h1, h2, z, q⟩ => ⟨l, b, xs, zs, e1, e2, h1, h2, z, q.go⟩
def rRepA : R2 := fun x y H Q => ∃ l k xs, x = .ref l ∧ y = .int k ∧ H l = some (.lst xs) ∧ -(2 ^ 63) ≤ k ∧ k < 2 ^ 63 ∧ xs.length * k.toNat ≤ sizeLine ∧ New H (.lst (List.replicate k.toNat xs).flatten) Q
theorem op_repA : OpR X (binaryOp .Mult) rRepA := opR_imp op_rep fun _ _ _ _ ⟨l, k, xs, e1, e2, h1, h2, h3, z, q⟩ => ⟨l, k, xs, e1, e2, h1, h2, h3, z, q.go⟩
def rSlA (K : PySem.W.Frag) : V → Option Int → Option Int → Hp → VK → Prop := fun x lo hi H Q => ∃ a xs, x = .ref a ∧ SqL K H a xs ∧ New H (.lst (cutV xs lo hi)) Q
theorem sl_listA : SlR X (rSlA X.K) := slR_imp sl_list fun _ _ _ _ _ ⟨a, xs, e, h1, q⟩ => ⟨a, xs, e, h1, q.go⟩
def rListA (K : PySem.W.Frag) : List V → Hp → VK → Prop := fun xs H Q => ∃ p ys, xs = [.ref p] ∧ (SqL K H p ys ∨ SqT K H p ys) ∧ New H (.lst ys) Q
theorem call_listA : CallR X (.type "list") (rListA X.K) := callR_imp call_list_of fun _ _ _ ⟨p, ys, e, h, q⟩ => ⟨p, ys, e, h, q.go⟩
/-- tuple(a list) -/
def rTupLA (K : PySem.W.Frag) : List V → Hp → VK → Prop := fun xs H Q => ∃ p ys, xs = [.ref p] ∧ SqL K H p ys ∧ New H (.tup ys) Q
theorem call_tupLA : CallR X (.type "tuple") (rTupLA X.K) := callR_imp call_tuple_of fun _ _ _ ⟨p, ys, e, h, q⟩ => ⟨p, ys, e, .inl ⟨h, q.go⟩⟩
def rSetA : V → V → V → Hp → (Hp → Prop) → Prop := fun o i v H Q => ∃ p xs k j, o = .ref p ∧ i = .int k ∧ H p = some (.lst xs) ∧ ixN xs.length k = some j ∧ Set1 H p (.lst (xs.set j v)) Q
theorem set_listA : PSet X rSetA := pSet_imp set_list fun _ _ _ _ _ ⟨p, xs, k, j, e1, e2, h1, h2, q⟩ => ⟨p, xs, k, j, e1, e2, h1, h2, q.go⟩
def rAppendA : V → List V → Hp → VK → Prop := fun x vs H Q => ∃ l xs y, x = .ref l ∧ vs = [y] ∧ H l = some (.lst xs) ∧ xs.length < sizeLine ∧ Set1 H l (.lst (xs ++ [y])) (Q .non)
def rClearA : V → List V → Hp → VK → Prop := fun x vs H Q => ∃ l xs, x = .ref l ∧ vs = [] ∧ H l = some (.lst xs) ∧ Set1 H l (.lst []) (Q .non)
theorem mt_clearA : MtM X "list.clear" rClearA := mtM_imp mt_clear fun _ _ _ _ ⟨l, xs, e1, e2, h1, q⟩ => ⟨l, xs, e1, e2, h1, q.go⟩
theorem mt_appendA : MtM X "list.append" rAppendA := mtM_imp mt_append fun _ _ _ _ ⟨l, xs, y, e1, e2, h1, h2, q⟩ => ⟨l, xs, y, e1, e2, h1, h2, q.go⟩
end
theorem cutV_mem {xs : List V} {lo hi : Option Int} {x : V} (h : x ∈ cutV xs lo hi) : x ∈ xs := List.mem_of_mem_drop (List.mem_of_mem_take h)
theorem int_of_map {ns : List Int} {i : Nat} {y : V} (h : (ns.map V.int)[i]? = some y) : ∃ z, ns[i]? = some z ∧ y = .int z := by
  rw [List.getElem?_map] at h
  cases e : ns[i]? with
  | none => rw [e] at h; cases h
  | some z => rw [e] at h; exact ⟨z, rfl, (Option.some.inj h).symm⟩
/-- the law's numbers: the first one (0 without), and some more -/
theorem cells_ints {c : Int} {ns : List Int} {lo hi : Option Int} {i : Nat} {y : V} (h : ([V.int c] ++ cutV (ns.map V.int) lo hi)[i]? = some y) : ∃ z, y = .int z := by
  have m := List.mem_of_getElem? h
  rcases List.mem_append.mp m with m | m
  · exact ⟨c, by simpa using m⟩
  · have m2 := cutV_mem m
    obtain ⟨z, _, e⟩ := List.mem_map.mp m2
    exact ⟨z, e.symm⟩
theorem cells_len {ns : List Int} {lo hi : Option Int} (h : ns.length ≤ 63) : ([V.int 0] : List V).length + (cutV (ns.map V.int) lo hi).length ≤ sizeLine := by
  have h1 := cutV_length (ns.map V.int) lo hi
  rw [List.length_map] at h1
  exact Nat.le_trans (by show 1 + _ ≤ 100; omega) (by decide)
/-! ### kinds -/
def isI : V → Bool
  | .int _ => true
  | _ => false
def isN : V → Bool
  | .int i => decide (0 ≤ i)
  | _ => false
def isB : V → Bool
  | .bl _ => true
  | _ => false
/-- a value of one of the plain kinds -/
inductive Ty7 (H : Hp) : V → String → Prop where
  | non : Ty7 H .non "NoneType"
  | bl (b : Bool) : Ty7 H (.bl b) "bool"
  | int (i : Int) : Ty7 H (.int i) "int"
  | str (x : Str) : Ty7 H (.str x) "str"
  | lst {a : Addr} {xs : List V} (h : H a = some (.lst xs)) : Ty7 H (.ref a) "list"
  | tup {a : Addr} {xs : List V} (h : H a = some (.tup xs)) : Ty7 H (.ref a) "tuple"
  | dK {a : Addr} {xs : List (Key × V)} (h : H a = some (.dK xs)) : Ty7 H (.ref a) "dict"
section
variable {K : PySem.W.Frag} {H H' : Hp} {x : V} {t : String}
theorem Ty7.tx (h : Ty7 H x t) : TyX K H x (.type t) := by
  cases h with
  | non => exact .base .non
  | bl b => exact .base (.bl b)
  | int i => exact .base (.int i)
  | str i => exact .base (.str i)
  | lst h => exact .base (.lst h)
  | tup h => exact .base (.tup h)
  | dK h => exact .base (.dK h)
theorem Ty7.ki (h : Ty7 H x t) : kitB t "int" = some (isI x || isB x) := by
  cases h <;> (simp only [isI, isB]; decide +kernel)
theorem Ty7.kb (h : Ty7 H x t) : kitB t "bool" = some (isB x) := by
  cases h <;> (simp only [isB]; decide +kernel)
theorem Ty7.kl (h : Ty7 H x t) : kitB t "list" = some (decide (t = "list")) := by
  cases h <;> decide +kernel
theorem Ty7.kt (h : Ty7 H x t) : kitB t "tuple" = some (decide (t = "tuple")) := by
  cases h <;> decide +kernel
theorem Ty7.ks (h : Ty7 H x t) : kitB t "str" = some (decide (t = "str")) := by
  cases h <;> decide +kernel
theorem Ty7.mono (h : Ty7 H x t) (s : Same H H') : Ty7 H' x t := by
  cases h with
  | non => exact .non
  | bl b => exact .bl b
  | int i => exact .int i
  | str i => exact .str i
  | lst h => exact .lst (s _ _ h)
  | tup h => exact .tup (s _ _ h)
  | dK h => exact .dK (s _ _ h)
end
theorem isI_of : ∀ {x : V}, isI x = true → ∃ i, x = .int i
  | .int i, _ => ⟨i, rfl⟩
theorem isI_bool {x : V} (h : (isI x || isB x) = true) : (!isB x) = isI x := by
  cases x <;> simp_all [isI, isB]
theorem isI_no {x : V} (h : ¬ (isI x || isB x) = true) : false = isI x := by
  cases x <;> simp_all [isI, isB]
def heldM (n l : Int) (m : Option Int) : Int := max (match m with | some m => min n m | none => n) l
def optI : Option Int → V
  | some i => .int i
  | none => .non
/-- the law's source of draws: three whole numbers -/
def src (s : Int × Int × Int) : HO := .lst [.int s.1, .int s.2.1, .int s.2.2]
/-! ### draws: only the source at a changes -/
def Src (H : Hp) (a : Addr) : Prop := ∃ s, H a = some (src s)
structure Dr (a : Addr) (H H' : Hp) : Prop where
  s : Src H' a
  b : But a H H'
theorem Dr.app {a b : Addr} {H H' : Hp} {o : HO} (d : Dr a H H') (n : b ≠ a) (h : H b = some o) : H' b = some o := d.b _ _ n h
theorem Dr.trans {a : Addr} {H H1 H2 : Hp} (d : Dr a H H1) (e : Dr a H1 H2) : Dr a H H2 := ⟨e.s, d.b.trans e.b⟩
theorem Dr.same {a : Addr} {H H1 H2 : Hp} (d : Dr a H H1) (e : Same H1 H2) : Dr a H H2 := ⟨let ⟨s, h⟩ := d.s; ⟨s, e _ _ h⟩, d.b.trans (Same.but e)⟩
theorem Dr.of {a : Addr} {H H1 : Hp} (h : Src H a) (e : Same H H1) : Dr a H H1 := ⟨let ⟨s, h⟩ := h; ⟨s, e _ _ h⟩, Same.but e⟩
theorem Dr.refl {a : Addr} {H : Hp} (h : Src H a) : Dr a H H := ⟨h, But.refl⟩
/-- a list that was not there may change -/
theorem Dr.mut {a l : Addr} {H H1 H2 : Hp} (d : Dr a H H1) (e : But l H1 H2) (n : H l = none) (na : a ≠ l) : Dr a H H2 :=
  ⟨let ⟨s, h⟩ := d.s; ⟨s, e _ _ na h⟩, fun b o nb h => e _ _ (ne_of_none h n) (d.b _ _ nb h)⟩
theorem Same.mut' {l : Addr} {H H1 H2 : Hp} (d : Same H H1) (e : But l H1 H2) (n : H l = none) : Same H H2 := fun b o h => e _ _ (ne_of_none h n) (d _ _ h)
theorem Src.same {a : Addr} {H H1 : Hp} (h : Src H a) (e : Same H H1) : Src H1 a := let ⟨s, h⟩ := h; ⟨s, e _ _ h⟩
theorem Src.but {a l : Addr} {H H1 : Hp} (h : Src H a) (e : But l H H1) (n : a ≠ l) : Src H1 a := let ⟨s, h⟩ := h; ⟨s, e _ _ n h⟩
theorem Src.ne {a p : Addr} {H : Hp} (h : Src H a) (n : H p = none) : p ≠ a := let ⟨_, h⟩ := h; (ne_of_none h n).symm
theorem Src.of {a : Addr} {H : Hp} {s : Int × Int × Int} (h : H a = some (src s)) : Src H a := ⟨s, h⟩
theorem Dr.free {a l : Addr} {H H' : Hp} (d : Dr a H H') (h : H' l = none) (n : l ≠ a) : H l = none := by
  cases q : H l with
  | none => rfl
  | some o => rw [d.b _ _ n q] at h; cases h
theorem Dr.seq {K : PySem.W.Frag} {H H' : Hp} {a b : Addr} {xs : List V} (e : Dr a H H') (n : b ≠ a) (h : SqL K H b xs) : SqL K H' b xs := e.b.seq n h
/-! ### comprehensions: P by the turn, the items so far, the heap; the item's end by a continuation of any kind -/
section
variable {K : PySem.W.Frag} {a b : Addr} {xs zs : List V} {g : TG} {tt : TT} {te : TE} {vs : List Nat} {σ : L2.St} {H1 : Hp} {D : Addr} {Qd : Hp → Prop}
/-- what an item's turn is to end in -/
abbrev LcT (g : TG) (tt : TT) (te : TE) (vs : List Nat) (σ : L2.St) (x : V) (H : Hp) (Kt : V → Hp → Prop) (Kf : Hp → Prop) : Prop :=
  g x (wipe σ vs) H fun σ2 H2 => wipe σ2 vs = wipe σ vs ∧ tt σ2 H2 fun b H3 => if b = true then te σ2 H3 Kt else Kf H3
/-- the ends of a turn -/
structure LcK (D : Addr) (P : List V → Hp → Prop) (acc : List V) (Kt : V → Hp → Prop) (Kf : Hp → Prop) : Prop where
  yes : ∀ y H4, H4 D = some (.lst acc) → acc.length < sizeLine → (∀ H5, But D H4 H5 → H5 D = some (.lst (acc ++ [y])) → P (acc ++ [y]) H5) → Kt y H4
  no : ∀ H3, H3 D = some (.lst acc) → P acc H3 → Kf H3
theorem lcL (P : Nat → List V → Hp → Prop) (h0 : ∀ H', Same H1 H' → H' D = some (.lst []) → P 0 [] H') (hD : H1 D = none) (hl : ∀ i acc H, P i acc H → SqL K H a xs)
    (hs : ∀ i x acc H Kt Kf, xs[i]? = some x → P i acc H → H D = some (.lst acc) → LcK D (P (i + 1)) acc Kt Kf → LcT g tt te vs σ x H Kt Kf)
    (hd : ∀ acc H, P xs.length acc H → H D = some (.lst acc) → Qd H) :
    ∃ W : Nat → Nat → Hp → Prop, (∃ m, W 0 m (upd H1 D (.lst []))) ∧ ∀ i m H, W i m H →
      ((Itl K a).stop i H ∧ Qd H) ∨ ((Itl K a).go i H ∧ ∃ Nx : Hp → Prop, (∀ H', Nx H' → ∃ m', m' < m ∧ W (i + 1) m' H') ∧ ∀ x H', (Itl K a).yld i H x H' → g x (wipe σ vs) H' fun σ2 H2 => wipe σ2 vs = wipe σ vs ∧ tt σ2 H2 fun b H3 =>
        if b = true then te σ2 H3 fun y H4 => ∃ acc, H4 D = some (.lst acc) ∧ acc.length < sizeLine ∧ Nx (upd H4 D (.lst (acc ++ [y]))) else Nx H3) :=
  lc_list (xs := xs) (fun i H => ∃ acc, H D = some (.lst acc) ∧ P i acc H) ⟨[], upd_same, h0 _ (Same.upd0 hD) upd_same⟩ (fun i H _ ⟨acc, _, p⟩ => hl i acc H p)
    (fun i x H hx ⟨acc, e, p⟩ => hs i x acc H _ _ hx p e ⟨fun y H4 e4 z k => ⟨acc, e4, z, acc ++ [y], upd_same, k _ But.refl.upd upd_same⟩, fun H3 e3 k => ⟨acc, e3, k⟩⟩) (fun H ⟨acc, e, p⟩ => hd acc H p e)
theorem lcT (P : Nat → List V → Hp → Prop) (h0 : ∀ H', Same H1 H' → H' D = some (.lst []) → P 0 [] H') (hD : H1 D = none) (hl : ∀ i acc H, P i acc H → SqT K H a xs)
    (hs : ∀ i x acc H Kt Kf, xs[i]? = some x → P i acc H → H D = some (.lst acc) → LcK D (P (i + 1)) acc Kt Kf → LcT g tt te vs σ x H Kt Kf)
    (hd : ∀ acc H, P xs.length acc H → H D = some (.lst acc) → Qd H) :
    ∃ W : Nat → Nat → Hp → Prop, (∃ m, W 0 m (upd H1 D (.lst []))) ∧ ∀ i m H, W i m H →
      ((Itt K a).stop i H ∧ Qd H) ∨ ((Itt K a).go i H ∧ ∃ Nx : Hp → Prop, (∀ H', Nx H' → ∃ m', m' < m ∧ W (i + 1) m' H') ∧ ∀ x H', (Itt K a).yld i H x H' → g x (wipe σ vs) H' fun σ2 H2 => wipe σ2 vs = wipe σ vs ∧ tt σ2 H2 fun b H3 =>
        if b = true then te σ2 H3 fun y H4 => ∃ acc, H4 D = some (.lst acc) ∧ acc.length < sizeLine ∧ Nx (upd H4 D (.lst (acc ++ [y]))) else Nx H3) :=
  lc_tup (xs := xs) (fun i H => ∃ acc, H D = some (.lst acc) ∧ P i acc H) ⟨[], upd_same, h0 _ (Same.upd0 hD) upd_same⟩ (fun i H _ ⟨acc, _, p⟩ => hl i acc H p)
    (fun i x H hx ⟨acc, e, p⟩ => hs i x acc H _ _ hx p e ⟨fun y H4 e4 z k => ⟨acc, e4, z, acc ++ [y], upd_same, k _ But.refl.upd upd_same⟩, fun H3 e3 k => ⟨acc, e3, k⟩⟩) (fun H ⟨acc, e, p⟩ => hd acc H p e)
theorem lcR {lo : Int} {n : Nat} (P : Nat → List V → Hp → Prop) (h0 : ∀ H', Same H1 H' → H' D = some (.lst []) → P 0 [] H') (hD : H1 D = none)
    (hs : ∀ i acc H Kt Kf, i < n → P i acc H → H D = some (.lst acc) → LcK D (P (i + 1)) acc Kt Kf → LcT g tt te vs σ (.int (lo + i)) H Kt Kf)
    (hd : ∀ acc H, P n acc H → H D = some (.lst acc) → Qd H) :
    ∃ W : Nat → Nat → Hp → Prop, (∃ m, W 0 m (upd H1 D (.lst []))) ∧ ∀ i m H, W i m H →
      ((Itr lo n).stop i H ∧ Qd H) ∨ ((Itr lo n).go i H ∧ ∃ Nx : Hp → Prop, (∀ H', Nx H' → ∃ m', m' < m ∧ W (i + 1) m' H') ∧ ∀ x H', (Itr lo n).yld i H x H' → g x (wipe σ vs) H' fun σ2 H2 => wipe σ2 vs = wipe σ vs ∧ tt σ2 H2 fun b H3 =>
        if b = true then te σ2 H3 fun y H4 => ∃ acc, H4 D = some (.lst acc) ∧ acc.length < sizeLine ∧ Nx (upd H4 D (.lst (acc ++ [y]))) else Nx H3) :=
  lc_range (fun i H => ∃ acc, H D = some (.lst acc) ∧ P i acc H) ⟨[], upd_same, h0 _ (Same.upd0 hD) upd_same⟩
    (fun i H hx ⟨acc, e, p⟩ => hs i acc H _ _ hx p e ⟨fun y H4 e4 z k => ⟨acc, e4, z, acc ++ [y], upd_same, k _ But.refl.upd upd_same⟩, fun H3 e3 k => ⟨acc, e3, k⟩⟩) (fun H ⟨acc, e, p⟩ => hd acc H p e)
/-- over enumerate: the pair is a new tuple -/
theorem lcE (P : Nat → List V → Hp → Prop) (h0 : ∀ H', Same H1 H' → H' D = some (.lst []) → P 0 [] H') (hD : H1 D = none) (hl : ∀ i acc H, P i acc H → SqL K H a xs)
    (hs : ∀ i x acc H T H' Kt Kf, xs[i]? = some x → P i acc H → H D = some (.lst acc) → H T = none → Same H H' → H' T = some (.tup [.int (i : Nat), x]) → LcK D (P (i + 1)) acc Kt Kf → LcT g tt te vs σ (.ref T) H' Kt Kf)
    (hd : ∀ acc H, P xs.length acc H → H D = some (.lst acc) → Qd H) :
    ∃ W : Nat → Nat → Hp → Prop, (∃ m, W 0 m (upd H1 D (.lst []))) ∧ ∀ i m H, W i m H →
      ((Ite K a).stop i H ∧ Qd H) ∨ ((Ite K a).go i H ∧ ∃ Nx : Hp → Prop, (∀ H', Nx H' → ∃ m', m' < m ∧ W (i + 1) m' H') ∧ ∀ x H', (Ite K a).yld i H x H' → g x (wipe σ vs) H' fun σ2 H2 => wipe σ2 vs = wipe σ vs ∧ tt σ2 H2 fun b H3 =>
        if b = true then te σ2 H3 fun y H4 => ∃ acc, H4 D = some (.lst acc) ∧ acc.length < sizeLine ∧ Nx (upd H4 D (.lst (acc ++ [y]))) else Nx H3) := by
  refine ⟨fun i m H => m = xs.length - i ∧ i ≤ xs.length ∧ ∃ acc, H D = some (.lst acc) ∧ P i acc H, ⟨xs.length, rfl, Nat.zero_le _, [], upd_same, h0 _ (Same.upd0 hD) upd_same⟩, ?_⟩
  rintro i m H ⟨rfl, hi, acc, e, p⟩
  have q := hl i acc H p
  by_cases hlt : i < xs.length
  · refine .inr ⟨⟨xs, xs[i], q, by simp [hlt]⟩, fun H => ∃ acc, H D = some (.lst acc) ∧ P (i + 1) acc H, fun H' p' => ⟨xs.length - (i + 1), by omega, rfl, hlt, p'⟩, fun v H' y => ?_⟩
    obtain ⟨T, x, rfl, nT, rfl, hx⟩ := y
    exact hs i x acc H T _ _ _ (hx xs q) p e nT (Same.upd0 nT) upd_same ⟨fun y H4 e4 z k => ⟨acc, e4, z, acc ++ [y], upd_same, k _ But.refl.upd upd_same⟩, fun H3 e3 k => ⟨acc, e3, k⟩⟩
  · have ei : i = xs.length := by omega
    subst ei
    exact .inl ⟨⟨xs, q, Nat.le_refl _⟩, hd acc H p e⟩
/-- over zip of two lists of one length -/
theorem lcZ (hlen : xs.length = zs.length) (P : Nat → List V → Hp → Prop) (h0 : ∀ H', Same H1 H' → H' D = some (.lst []) → P 0 [] H') (hD : H1 D = none) (hl : ∀ i acc H, P i acc H → SqL K H a xs ∧ SqL K H b zs)
    (hs : ∀ i x z acc H T H' Kt Kf, xs[i]? = some x → zs[i]? = some z → P i acc H → H D = some (.lst acc) → H T = none → Same H H' → H' T = some (.tup [x, z]) → LcK D (P (i + 1)) acc Kt Kf → LcT g tt te vs σ (.ref T) H' Kt Kf)
    (hd : ∀ acc H, P xs.length acc H → H D = some (.lst acc) → Qd H) :
    ∃ W : Nat → Nat → Hp → Prop, (∃ m, W 0 m (upd H1 D (.lst []))) ∧ ∀ i m H, W i m H →
      ((Itz K a b).stop i H ∧ Qd H) ∨ ((Itz K a b).go i H ∧ ∃ Nx : Hp → Prop, (∀ H', Nx H' → ∃ m', m' < m ∧ W (i + 1) m' H') ∧ ∀ x H', (Itz K a b).yld i H x H' → g x (wipe σ vs) H' fun σ2 H2 => wipe σ2 vs = wipe σ vs ∧ tt σ2 H2 fun b H3 =>
        if b = true then te σ2 H3 fun y H4 => ∃ acc, H4 D = some (.lst acc) ∧ acc.length < sizeLine ∧ Nx (upd H4 D (.lst (acc ++ [y]))) else Nx H3) := by
  refine ⟨fun i m H => m = xs.length - i ∧ i ≤ xs.length ∧ ∃ acc, H D = some (.lst acc) ∧ P i acc H, ⟨xs.length, rfl, Nat.zero_le _, [], upd_same, h0 _ (Same.upd0 hD) upd_same⟩, ?_⟩
  rintro i m H ⟨rfl, hi, acc, e, p⟩
  obtain ⟨q1, q2⟩ := hl i acc H p
  by_cases hlt : i < xs.length
  · have hlt2 : i < zs.length := by omega
    refine .inr ⟨⟨xs, zs, xs[i], zs[i], q1, q2, by simp [hlt], by simp [hlt2]⟩, fun H => ∃ acc, H D = some (.lst acc) ∧ P (i + 1) acc H, fun H' p' => ⟨xs.length - (i + 1), by omega, rfl, hlt, p'⟩, fun v H' y => ?_⟩
    obtain ⟨T, x, z, rfl, nT, rfl, hx, hz⟩ := y
    exact hs i x z acc H T _ _ _ (hx xs q1) (hz zs q2) p e nT (Same.upd0 nT) upd_same ⟨fun y H4 e4 z k => ⟨acc, e4, z, acc ++ [y], upd_same, k _ But.refl.upd upd_same⟩, fun H3 e3 k => ⟨acc, e3, k⟩⟩
  · have ei : i = xs.length := by omega
    subst ei
    exact .inl ⟨⟨xs, zs, q1, q2, .inl (Nat.le_refl _)⟩, hd acc H p e⟩
/-- items that hang on the item alone (what stands, stands): the list of those that are told -/
def lcYs (n : Nat) (ys : Nat → Option V) : List V := (List.range n).filterMap ys
theorem lcYs_succ (n : Nat) (ys : Nat → Option V) : lcYs (n + 1) ys = lcYs n ys ++ (ys n).toList := by
  unfold lcYs
  rw [List.range_succ, List.filterMap_append]
  cases h : ys n with
  | none => simp [h]
  | some y => simp [h]
theorem lcYs_len (n : Nat) (ys : Nat → Option V) : (lcYs n ys).length ≤ n := by
  unfold lcYs
  have := List.length_filterMap_le ys (List.range n)
  rw [List.length_range] at this
  exact this
theorem lcYs_const (n : Nat) (v : V) : lcYs n (fun _ => some v) = List.replicate n v := by
  induction n with
  | zero => rfl
  | succ n ih => rw [lcYs_succ, ih, List.replicate_succ']; rfl
/-- .. one for each item -/
theorem lcYs_map {α : Type} (f : α → V) : ∀ (xs : List α) (ys : Nat → Option V), (∀ i x, xs[i]? = some x → ys i = some (f x)) → lcYs xs.length ys = xs.map f := by
  intro xs ys h
  have key : ∀ n, n ≤ xs.length → lcYs n ys = (xs.take n).map f := by
    intro n
    induction n with
    | zero => intro _; rfl
    | succ n ih =>
      intro hn
      have hx : xs[n]? = some xs[n] := List.getElem?_eq_getElem (by omega)
      rw [lcYs_succ, ih (by omega), h n _ hx, List.take_add_one, hx, List.map_append]
      rfl
  rw [key _ (Nat.le_refl _), List.take_length]
/-- .. of those that a test keeps -/
theorem lcYs_filter {α : Type} (q : α → Bool) (f : α → V) : ∀ (xs : List α) (ys : Nat → Option V), (∀ i x, xs[i]? = some x → ys i = if q x = true then some (f x) else none) → lcYs xs.length ys = (xs.filter q).map f := by
  intro xs ys h
  have key : ∀ n, n ≤ xs.length → lcYs n ys = ((xs.take n).filter q).map f := by
    intro n
    induction n with
    | zero => intro _; rfl
    | succ n ih =>
      intro hn
      have hx : xs[n]? = some xs[n] := List.getElem?_eq_getElem (by omega)
      rw [lcYs_succ, ih (by omega), h n _ hx, List.take_add_one, hx, List.filter_append, List.map_append]
      congr 1
      cases hq : q xs[n] <;> simp [hq]
  rw [key _ (Nat.le_refl _), List.take_length]
/-- the ends of a turn that changes nothing -/
structure LcQ (H : Hp) (r : Option V) (Kt : V → Hp → Prop) (Kf : Hp → Prop) : Prop where
  yes : ∀ y H4, Same H H4 → r = some y → Kt y H4
  no : ∀ H3, Same H H3 → r = none → Kf H3
theorem lcQ_of {P : Nat → List V → Hp → Prop} {ys : Nat → Option V} {i : Nat} {acc : List V} {H H0 : Hp} {Kt : V → Hp → Prop} {Kf : Hp → Prop} (hP : P = fun i acc H => acc = lcYs i ys ∧ Same H1 H) (hD : H1 D = none) (hi : i < 100000)
    (p : P i acc H0) (e : H0 D = some (.lst acc)) (s : Same H0 H) (k : LcK D (P (i + 1)) acc Kt Kf) : LcQ H (ys i) Kt Kf := by
  subst hP
  obtain ⟨rfl, sm⟩ := p
  have hz : (lcYs i ys).length < sizeLine := Nat.lt_of_le_of_lt (lcYs_len i ys) (Nat.lt_of_lt_of_le hi (by decide))
  refine ⟨fun y H4 s4 ey => k.yes y H4 (s4 _ _ (s _ _ e)) hz fun H5 b5 _ => ⟨?_, ?_⟩, fun H3 s3 en => k.no H3 (s3 _ _ (s _ _ e)) ⟨?_, (sm.trans s).trans s3⟩⟩
  · rw [lcYs_succ, ey]; rfl
  · exact Same.mut' ((sm.trans s).trans s4) b5 hD
  · rw [lcYs_succ, en]; simp
theorem lcLq (ys : Nat → Option V) (hD : H1 D = none) (hx : SqL K H1 a xs) (hn : xs.length ≤ 100000)
    (hs : ∀ i x H Kt Kf, xs[i]? = some x → Same H1 H → LcQ H (ys i) Kt Kf → LcT g tt te vs σ x H Kt Kf)
    (hd : ∀ H, Same H1 H → H D = some (.lst (lcYs xs.length ys)) → Qd H) :
    ∃ W : Nat → Nat → Hp → Prop, (∃ m, W 0 m (upd H1 D (.lst []))) ∧ ∀ i m H, W i m H →
      ((Itl K a).stop i H ∧ Qd H) ∨ ((Itl K a).go i H ∧ ∃ Nx : Hp → Prop, (∀ H', Nx H' → ∃ m', m' < m ∧ W (i + 1) m' H') ∧ ∀ x H', (Itl K a).yld i H x H' → g x (wipe σ vs) H' fun σ2 H2 => wipe σ2 vs = wipe σ vs ∧ tt σ2 H2 fun b H3 =>
        if b = true then te σ2 H3 fun y H4 => ∃ acc, H4 D = some (.lst acc) ∧ acc.length < sizeLine ∧ Nx (upd H4 D (.lst (acc ++ [y]))) else Nx H3) :=
  lcL (fun i acc H => acc = lcYs i ys ∧ Same H1 H) (fun H' s _ => ⟨rfl, s⟩) hD (fun i acc H p => p.2.seq hx)
    (fun i x acc H Kt Kf hxi p e k => hs i x H Kt Kf hxi p.2 (lcQ_of rfl hD (by have := (List.getElem?_eq_some_iff.mp hxi).1; omega) p e (Same.refl H) k))
    (fun acc H p e => hd H p.2 (by rw [← p.1]; exact e))
theorem lcTq (ys : Nat → Option V) (hD : H1 D = none) (hx : SqT K H1 a xs) (hn : xs.length ≤ 100000)
    (hs : ∀ i x H Kt Kf, xs[i]? = some x → Same H1 H → LcQ H (ys i) Kt Kf → LcT g tt te vs σ x H Kt Kf)
    (hd : ∀ H, Same H1 H → H D = some (.lst (lcYs xs.length ys)) → Qd H) :
    ∃ W : Nat → Nat → Hp → Prop, (∃ m, W 0 m (upd H1 D (.lst []))) ∧ ∀ i m H, W i m H →
      ((Itt K a).stop i H ∧ Qd H) ∨ ((Itt K a).go i H ∧ ∃ Nx : Hp → Prop, (∀ H', Nx H' → ∃ m', m' < m ∧ W (i + 1) m' H') ∧ ∀ x H', (Itt K a).yld i H x H' → g x (wipe σ vs) H' fun σ2 H2 => wipe σ2 vs = wipe σ vs ∧ tt σ2 H2 fun b H3 =>
        if b = true then te σ2 H3 fun y H4 => ∃ acc, H4 D = some (.lst acc) ∧ acc.length < sizeLine ∧ Nx (upd H4 D (.lst (acc ++ [y]))) else Nx H3) :=
  lcT (fun i acc H => acc = lcYs i ys ∧ Same H1 H) (fun H' s _ => ⟨rfl, s⟩) hD (fun i acc H p => (show SqT K H a xs from by
      rcases hx with (h | ⟨o, h⟩) | h
      · exact .inl (.inl (p.2 _ _ h))
      · exact .inl (.inr ⟨o, p.2 _ _ h⟩)
      · exact .inr h))
    (fun i x acc H Kt Kf hxi p e k => hs i x H Kt Kf hxi p.2 (lcQ_of rfl hD (by have := (List.getElem?_eq_some_iff.mp hxi).1; omega) p e (Same.refl H) k))
    (fun acc H p e => hd H p.2 (by rw [← p.1]; exact e))
theorem lcRq {lo : Int} {n : Nat} (ys : Nat → Option V) (hD : H1 D = none) (hn : n ≤ 100000)
    (hs : ∀ i H Kt Kf, i < n → Same H1 H → LcQ H (ys i) Kt Kf → LcT g tt te vs σ (.int (lo + i)) H Kt Kf)
    (hd : ∀ H, Same H1 H → H D = some (.lst (lcYs n ys)) → Qd H) :
    ∃ W : Nat → Nat → Hp → Prop, (∃ m, W 0 m (upd H1 D (.lst []))) ∧ ∀ i m H, W i m H →
      ((Itr lo n).stop i H ∧ Qd H) ∨ ((Itr lo n).go i H ∧ ∃ Nx : Hp → Prop, (∀ H', Nx H' → ∃ m', m' < m ∧ W (i + 1) m' H') ∧ ∀ x H', (Itr lo n).yld i H x H' → g x (wipe σ vs) H' fun σ2 H2 => wipe σ2 vs = wipe σ vs ∧ tt σ2 H2 fun b H3 =>
        if b = true then te σ2 H3 fun y H4 => ∃ acc, H4 D = some (.lst acc) ∧ acc.length < sizeLine ∧ Nx (upd H4 D (.lst (acc ++ [y]))) else Nx H3) :=
  lcR (fun i acc H => acc = lcYs i ys ∧ Same H1 H) (fun H' s _ => ⟨rfl, s⟩) hD
    (fun i acc H Kt Kf hxi p e k => hs i H Kt Kf hxi p.2 (lcQ_of rfl hD (by omega) p e (Same.refl H) k))
    (fun acc H p e => hd H p.2 (by rw [← p.1]; exact e))
theorem lcEq (ys : Nat → Option V) (hD : H1 D = none) (hx : SqL K H1 a xs) (hn : xs.length ≤ 100000)
    (hs : ∀ i x T H Kt Kf, xs[i]? = some x → Same H1 H → H T = some (.tup [.int (i : Nat), x]) → LcQ H (ys i) Kt Kf → LcT g tt te vs σ (.ref T) H Kt Kf)
    (hd : ∀ H, Same H1 H → H D = some (.lst (lcYs xs.length ys)) → Qd H) :
    ∃ W : Nat → Nat → Hp → Prop, (∃ m, W 0 m (upd H1 D (.lst []))) ∧ ∀ i m H, W i m H →
      ((Ite K a).stop i H ∧ Qd H) ∨ ((Ite K a).go i H ∧ ∃ Nx : Hp → Prop, (∀ H', Nx H' → ∃ m', m' < m ∧ W (i + 1) m' H') ∧ ∀ x H', (Ite K a).yld i H x H' → g x (wipe σ vs) H' fun σ2 H2 => wipe σ2 vs = wipe σ vs ∧ tt σ2 H2 fun b H3 =>
        if b = true then te σ2 H3 fun y H4 => ∃ acc, H4 D = some (.lst acc) ∧ acc.length < sizeLine ∧ Nx (upd H4 D (.lst (acc ++ [y]))) else Nx H3) :=
  lcE (fun i acc H => acc = lcYs i ys ∧ Same H1 H) (fun H' s _ => ⟨rfl, s⟩) hD (fun i acc H p => p.2.seq hx)
    (fun i x acc H T H' Kt Kf hxi p e nT sT gT k => hs i x T H' Kt Kf hxi (p.2.trans sT) gT (lcQ_of rfl hD (by have := (List.getElem?_eq_some_iff.mp hxi).1; omega) p e sT k))
    (fun acc H p e => hd H p.2 (by rw [← p.1]; exact e))
theorem lcZq (ys : Nat → Option V) (hlen : xs.length = zs.length) (hD : H1 D = none) (hx : SqL K H1 a xs) (hz : SqL K H1 b zs) (hn : xs.length ≤ 100000)
    (hs : ∀ i x z T H Kt Kf, xs[i]? = some x → zs[i]? = some z → Same H1 H → H T = some (.tup [x, z]) → LcQ H (ys i) Kt Kf → LcT g tt te vs σ (.ref T) H Kt Kf)
    (hd : ∀ H, Same H1 H → H D = some (.lst (lcYs xs.length ys)) → Qd H) :
    ∃ W : Nat → Nat → Hp → Prop, (∃ m, W 0 m (upd H1 D (.lst []))) ∧ ∀ i m H, W i m H →
      ((Itz K a b).stop i H ∧ Qd H) ∨ ((Itz K a b).go i H ∧ ∃ Nx : Hp → Prop, (∀ H', Nx H' → ∃ m', m' < m ∧ W (i + 1) m' H') ∧ ∀ x H', (Itz K a b).yld i H x H' → g x (wipe σ vs) H' fun σ2 H2 => wipe σ2 vs = wipe σ vs ∧ tt σ2 H2 fun b H3 =>
        if b = true then te σ2 H3 fun y H4 => ∃ acc, H4 D = some (.lst acc) ∧ acc.length < sizeLine ∧ Nx (upd H4 D (.lst (acc ++ [y]))) else Nx H3) :=
  lcZ hlen (fun i acc H => acc = lcYs i ys ∧ Same H1 H) (fun H' s _ => ⟨rfl, s⟩) hD (fun i acc H p => ⟨p.2.seq hx, p.2.seq hz⟩)
    (fun i x z acc H T H' Kt Kf hxi hzi p e nT sT gT k => hs i x z T H' Kt Kf hxi hzi (p.2.trans sT) gT (lcQ_of rfl hD (by have := (List.getElem?_eq_some_iff.mp hxi).1; omega) p e sT k))
    (fun acc H p e => hd H p.2 (by rw [← p.1]; exact e))
end
/-- the items of a dict: it is held from there on (nobody else has it) -/
def iItemsN (td : TE) : TI := fun σ H R => td σ H fun x H1 => ∃ d kvs, x = .ref d ∧ H1 d = some (.dK kvs) ∧ ∀ o H2, But d H1 H2 → H2 d = some (.frz o (.dK kvs)) → R (Iti d o kvs) H2
theorem pi_itemsN {X : Cx} {e : Expr} {td : TE} {apos cpos : Pos} {elts : List Expr} {kk : Nat} {tpos : Pos} (he : PE X e td) (hbase : attributeBase e "items" X.env (eval e X.env) = eval e X.env := by rfl) (hline : (apos.endLine == cpos.line) = true := by rfl) :
    PI X (.Tuple elts kk tpos) (.Call (.Attribute e "items" apos) [] [] cpos) (iItemsN td) := by
  refine ⟨fun pins s σ H R I h => ?_⟩
  refine wpAny_Call_method (T := "dict") (id := "dict.items") hbase rfl hline F.plainAttrs_dict F.slot_dict_items F.type_dict_items (thn (he.run pins s σ H _ I h) fun u s1 ⟨x, H0, I0, rx, d, kvs, ex, hd0, q0⟩ => ?_)
  subst ex
  obtain rfl : u = Value.ref d := rx
  obtain ⟨o, I1⟩ := I0.lock hd0 trivial
  have hd : (upd H0 d (.frz o (.dK kvs))) d = some (.frz o (.dK kvs)) := upd_same
  have q := q0 o _ But.refl.upd hd
  generalize upd H0 d (.frz o (.dK kvs)) = H1 at I1 hd q
  obtain ⟨hs, hgd, hx, es, ep, vs, hdt, hsz, kv, hm⟩ := I1.frzK hd
  have hl : kvs.length = vs.length := Paired.length kv
  refine ⟨hm.dictOf.typeIs, hm.dictOf.mapOf.noDict, ?_⟩
  have I2 : Inv X pins σ H1 { s1 with heap := s1.heap.push { cls := .type "dict_items", data := .fields #[.ref d] } } := I1.kept (t' := s1.toks) fun b ob q => Heap.get?_push_of_some _ q
  have fin : wpAny (model X.prog X.w) X.A (pyIter (.ref s1.heap.objs.size)) (PIE X pins σ (.Tuple elts kk tpos) R) X.xe { s1 with heap := s1.heap.push { cls := .type "dict_items", data := .fields #[.ref d] } } := by
    refine wpAny_pyIter_items (d := d) (knd := mixKind X.prog X.w) ⟨_, Heap.get?_push_size _ rfl, rfl, rfl⟩ (hm.push _) (pi_one (tk := s1.toks) I2 _ (turn_items _ hdt) ⟨.none, .none, ?_⟩ q)
    rw [hl]
    exact Heap.get?_push_size _ rfl
  show wpAny _ _ (callWith cpos (.builtin "dict.items") [.ref d] [] []) _ X.xe s1
  exact method_meetsIn F.slot_dict_items F.entry_dict_items rfl (PySem.evalArgs_none ⟨rfl, hm.dictOf.typeIs, F.args_dict_items_1 _, _, meets_dict_items (mixKind X.prog X.w) d hs, ⟨vs, hm.dictOf⟩, fin⟩)
/-! ### loops over enumerate, zip, the items of a dict that nobody else holds -/
section
variable {K : PySem.W.Frag} {a b : Addr} {xs zs : List V} {g : TG} {tb : TS} {D : Ends} {σ : L2.St} {H : Hp}
theorem for_enum (Pv : Nat → L2.St → Hp → Prop) (h0 : Pv 0 σ H) (hl : ∀ i σ H, Pv i σ H → SqL K H a xs)
    (hs : ∀ i x T σ H H', xs[i]? = some x → Pv i σ H → H T = none → Same H H' → H' T = some (.tup [.int (i : Nat), x]) → g (.ref T) σ H' fun σ2 H2 => tb { D with nx := Pv (i + 1), ct := Pv (i + 1), bk := D.nx } σ2 H2) (hd : ∀ σ H, Pv xs.length σ H → D.nx σ H) :
    ∃ W : Nat → Nat → L2.St → Hp → Prop, (∃ m, W 0 m σ H) ∧ ∀ i m σ H, W i m σ H →
      ((Ite K a).stop i H ∧ D.nx σ H) ∨ ((Ite K a).go i H ∧ ∃ N : L2.St → Hp → Prop, (∀ σ' H', N σ' H' → ∃ m', m' < m ∧ W (i + 1) m' σ' H') ∧ ∀ v H', (Ite K a).yld i H v H' → g v σ H' fun σ2 H2 => tb { D with nx := N, ct := N, bk := D.nx } σ2 H2) := by
  refine ⟨fun i m σ H => m = xs.length - i ∧ i ≤ xs.length ∧ Pv i σ H, ⟨xs.length, rfl, Nat.zero_le _, h0⟩, ?_⟩
  rintro i m σ H ⟨rfl, hi, p⟩
  have q := hl i σ H p
  by_cases hlt : i < xs.length
  · refine .inr ⟨⟨xs, xs[i], q, by simp [hlt]⟩, Pv (i + 1), fun σ' H' p' => ⟨xs.length - (i + 1), by omega, rfl, hlt, p'⟩, fun v H' y => ?_⟩
    obtain ⟨T, x, rfl, nT, rfl, hx⟩ := y
    exact hs i x T σ H _ (hx xs q) p nT (Same.upd0 nT) upd_same
  · have ei : i = xs.length := by omega
    subst ei
    exact .inl ⟨⟨xs, q, Nat.le_refl _⟩, hd σ H p⟩
theorem for_zip (hlen : xs.length = zs.length) (Pv : Nat → L2.St → Hp → Prop) (h0 : Pv 0 σ H) (hl : ∀ i σ H, Pv i σ H → SqL K H a xs ∧ SqL K H b zs)
    (hs : ∀ i x z T σ H H', xs[i]? = some x → zs[i]? = some z → Pv i σ H → H T = none → Same H H' → H' T = some (.tup [x, z]) → g (.ref T) σ H' fun σ2 H2 => tb { D with nx := Pv (i + 1), ct := Pv (i + 1), bk := D.nx } σ2 H2) (hd : ∀ σ H, Pv xs.length σ H → D.nx σ H) :
    ∃ W : Nat → Nat → L2.St → Hp → Prop, (∃ m, W 0 m σ H) ∧ ∀ i m σ H, W i m σ H →
      ((Itz K a b).stop i H ∧ D.nx σ H) ∨ ((Itz K a b).go i H ∧ ∃ N : L2.St → Hp → Prop, (∀ σ' H', N σ' H' → ∃ m', m' < m ∧ W (i + 1) m' σ' H') ∧ ∀ v H', (Itz K a b).yld i H v H' → g v σ H' fun σ2 H2 => tb { D with nx := N, ct := N, bk := D.nx } σ2 H2) := by
  refine ⟨fun i m σ H => m = xs.length - i ∧ i ≤ xs.length ∧ Pv i σ H, ⟨xs.length, rfl, Nat.zero_le _, h0⟩, ?_⟩
  rintro i m σ H ⟨rfl, hi, p⟩
  obtain ⟨q1, q2⟩ := hl i σ H p
  by_cases hlt : i < xs.length
  · have hlt2 : i < zs.length := by omega
    refine .inr ⟨⟨xs, zs, xs[i], zs[i], q1, q2, by simp [hlt], by simp [hlt2]⟩, Pv (i + 1), fun σ' H' p' => ⟨xs.length - (i + 1), by omega, rfl, hlt, p'⟩, fun v H' y => ?_⟩
    obtain ⟨T, x, z, rfl, nT, rfl, hx, hz⟩ := y
    exact hs i x z T σ H _ (hx xs q1) (hz zs q2) p nT (Same.upd0 nT) upd_same
  · have ei : i = xs.length := by omega
    subst ei
    exact .inl ⟨⟨xs, zs, q1, q2, .inl (Nat.le_refl _)⟩, hd σ H p⟩
theorem for_items {d : Addr} {o : Obj} {kvs : List (Key × V)} (Pv : Nat → L2.St → Hp → Prop) (h0 : Pv 0 σ H) (hl : ∀ i σ H, Pv i σ H → H d = some (.frz o (.dK kvs)))
    (hs : ∀ i k v T σ H H', kvs[i]? = some (k, v) → Pv i σ H → H T = none → Same H H' → H' T = some (.tup [kV k, v]) → g (.ref T) σ H' fun σ2 H2 => tb { D with nx := Pv (i + 1), ct := Pv (i + 1), bk := D.nx } σ2 H2) (hd : ∀ σ H, Pv kvs.length σ H → D.nx σ H) :
    ∃ W : Nat → Nat → L2.St → Hp → Prop, (∃ m, W 0 m σ H) ∧ ∀ i m σ H, W i m σ H →
      ((Iti d o kvs).stop i H ∧ D.nx σ H) ∨ ((Iti d o kvs).go i H ∧ ∃ N : L2.St → Hp → Prop, (∀ σ' H', N σ' H' → ∃ m', m' < m ∧ W (i + 1) m' σ' H') ∧ ∀ v H', (Iti d o kvs).yld i H v H' → g v σ H' fun σ2 H2 => tb { D with nx := N, ct := N, bk := D.nx } σ2 H2) := by
  refine ⟨fun i m σ H => m = kvs.length - i ∧ i ≤ kvs.length ∧ Pv i σ H, ⟨kvs.length, rfl, Nat.zero_le _, h0⟩, ?_⟩
  rintro i m σ H ⟨rfl, hi, p⟩
  have q := hl i σ H p
  by_cases hlt : i < kvs.length
  · refine .inr ⟨⟨q, hlt⟩, Pv (i + 1), fun σ' H' p' => ⟨kvs.length - (i + 1), by omega, rfl, hlt, p'⟩, fun v H' y => ?_⟩
    obtain ⟨T, k, v, hx, rfl, nT, rfl⟩ := y
    exact hs i k v T σ H _ hx p nT (Same.upd0 nT) upd_same
  · have ei : i = kvs.length := by omega
    subst ei
    exact .inl ⟨⟨q, Nat.le_refl _⟩, hd σ H p⟩
end
/-! ### data, == -/
section
variable {K : PySem.W.Frag} {H H' : Hp}
theorem Same.seqT {a : Addr} {xs : List V} (e : Same H H') (h : SqT K H a xs) : SqT K H' a xs := by
  rcases h with (h | ⟨o, h⟩) | h
  · exact .inl (.inl (e _ _ h))
  · exact .inl (.inr ⟨o, e _ _ h⟩)
  · exact .inr h
mutual
theorem dp_mono (s : Same H H') : ∀ {v : V} {d : PyData}, Dp K H v d → Dp K H' v d
  | _, _, .non => .non
  | _, _, .bl b => .bl b
  | _, _, .int i => .int i
  | _, _, .str x => .str x
  | _, _, .lst h a => .lst (s.seq h) (dpAll_mono s a)
  | _, _, .tup h a => .tup (Same.seqT s h) (dpAll_mono s a)
theorem dpAll_mono (s : Same H H') : ∀ {vs : List V} {ds : List PyData}, DpAll K H vs ds → DpAll K H' vs ds
  | _, _, .nil => .nil
  | _, _, .cons h t => .cons (dp_mono s h) (dpAll_mono s t)
end
theorem dpAll_map {α : Type} {f : α → V} {g : α → PyData} (h : ∀ x, Dp K H (f x) (g x)) : ∀ xs : List α, DpAll K H (xs.map f) (xs.map g)
  | [] => .nil
  | x :: xs => .cons (h x) (dpAll_map h xs)
theorem dp_ints {a : Addr} {ns : List Int} (h : SqL K H a (ns.map V.int)) : Dp K H (.ref a) (.list (ns.map .int)) := .lst h (dpAll_map (fun i => .int i) ns)
def optD : Option Int → PyData
  | some i => .int i
  | none => .none
theorem dp_opt : ∀ x, Dp K H (optI x) (optD x)
  | some i => .int i
  | none => .non
theorem dp_opts {a : Addr} {ns : List (Option Int)} (h : SqL K H a (ns.map optI)) : Dp K H (.ref a) (.list (ns.map optD)) := .lst h (dpAll_map dp_opt ns)
end
mutual
/-- data without truths and dicts -/
def nob : PyData → Bool
  | .none | .int _ | .str _ => true
  | .bool _ | .dict _ => false
  | .list xs | .tuple xs => nobAll xs
def nobAll : List PyData → Bool
  | [] => true
  | x :: xs => nob x && nobAll xs
end
mutual
theorem eqv_iff : ∀ {d e : PyData}, nob d = true → nob e = true → (PyData.eqv d e = true ↔ d = e)
  | .none, .none, _, _ => by simp [PyData.eqv]
  | .none, .int _, _, _ => by simp [PyData.eqv]
  | .none, .str _, _, _ => by simp [PyData.eqv]
  | .none, .list _, _, _ => by simp [PyData.eqv]
  | .none, .tuple _, _, _ => by simp [PyData.eqv]
  | .int _, .none, _, _ => by simp [PyData.eqv]
  | .int _, .int _, _, _ => by simp [PyData.eqv]
  | .int _, .str _, _, _ => by simp [PyData.eqv]
  | .int _, .list _, _, _ => by simp [PyData.eqv]
  | .int _, .tuple _, _, _ => by simp [PyData.eqv]
  | .str _, .none, _, _ => by simp [PyData.eqv]
  | .str _, .int _, _, _ => by simp [PyData.eqv]
  | .str _, .str _, _, _ => by simp [PyData.eqv]
  | .str _, .list _, _, _ => by simp [PyData.eqv]
  | .str _, .tuple _, _, _ => by simp [PyData.eqv]
  | .list _, .none, _, _ => by simp [PyData.eqv]
  | .list _, .int _, _, _ => by simp [PyData.eqv]
  | .list _, .str _, _, _ => by simp [PyData.eqv]
  | .list xs, .list ys, h1, h2 => by
    have h := eqvAll_iff (xs := xs) (ys := ys) (by simpa [nob] using h1) (by simpa [nob] using h2)
    simp only [PyData.eqv, PyData.list.injEq]; exact h
  | .list _, .tuple _, _, _ => by simp [PyData.eqv]
  | .tuple _, .none, _, _ => by simp [PyData.eqv]
  | .tuple _, .int _, _, _ => by simp [PyData.eqv]
  | .tuple _, .str _, _, _ => by simp [PyData.eqv]
  | .tuple _, .list _, _, _ => by simp [PyData.eqv]
  | .tuple xs, .tuple ys, h1, h2 => by
    have h := eqvAll_iff (xs := xs) (ys := ys) (by simpa [nob] using h1) (by simpa [nob] using h2)
    simp only [PyData.eqv, PyData.tuple.injEq]; exact h
  | .bool _, _, h, _ => by simp [nob] at h
  | .dict _, _, h, _ => by simp [nob] at h
  | .none, .bool _, _, h => by simp [nob] at h
  | .none, .dict _, _, h => by simp [nob] at h
  | .int _, .bool _, _, h => by simp [nob] at h
  | .int _, .dict _, _, h => by simp [nob] at h
  | .str _, .bool _, _, h => by simp [nob] at h
  | .str _, .dict _, _, h => by simp [nob] at h
  | .list _, .bool _, _, h => by simp [nob] at h
  | .list _, .dict _, _, h => by simp [nob] at h
  | .tuple _, .bool _, _, h => by simp [nob] at h
  | .tuple _, .dict _, _, h => by simp [nob] at h
theorem eqvAll_iff : ∀ {xs ys : List PyData}, nobAll xs = true → nobAll ys = true → (PyData.eqvAll xs ys = true ↔ xs = ys)
  | [], [], _, _ => by simp [PyData.eqvAll]
  | [], _ :: _, _, _ => by simp [PyData.eqvAll]
  | _ :: _, [], _, _ => by simp [PyData.eqvAll]
  | x :: xs, y :: ys, h1, h2 => by
    simp only [nobAll, Bool.and_eq_true] at h1 h2
    have a := eqv_iff h1.1 h2.1
    have b := eqvAll_iff h1.2 h2.2
    simp only [PyData.eqvAll, Bool.and_eq_true, List.cons.injEq]
    rw [a, b]
end
theorem eqv_dec {d e : PyData} (h1 : nob d = true) (h2 : nob e = true) {b : Bool} (h : b = true ↔ d = e) : PyData.eqv d e = b := by
  have a := eqv_iff h1 h2
  cases hb : b with
  | true => rw [hb] at h; exact a.mpr (h.mp rfl)
  | false =>
    cases he : PyData.eqv d e with
    | false => rfl
    | true => have := h.mpr (a.mp he); rw [hb] at this; cases this
theorem nobAll_map {α : Type} {g : α → PyData} (h : ∀ x, nob (g x) = true) : ∀ xs : List α, nobAll (xs.map g) = true
  | [] => by simp [nobAll]
  | x :: xs => by simp only [List.map_cons, nobAll, h x, nobAll_map h xs, Bool.and_self]
theorem canLayAll0_map {α : Type} {g : α → PyData} (h : ∀ x, (g x).canLay0 = true) : ∀ xs : List α, PyData.canLayAll0 (xs.map g) = true
  | [] => by simp [PyData.canLayAll0]
  | x :: xs => by simp only [List.map_cons, PyData.canLayAll0, h x, canLayAll0_map h xs, Bool.and_self]
theorem depthAll_map {α : Type} {g : α → PyData} {m : Nat} (h : ∀ x, (g x).depth ≤ m) : ∀ xs : List α, PyData.depthAll (xs.map g) ≤ m
  | [] => by simp [PyData.depthAll]
  | x :: xs => by
    have h1 := h x
    have h2 := depthAll_map h xs
    simp only [List.map_cons, PyData.depthAll]; omega
theorem shaped_map {α : Type} {g : α → PyData} {m : Nat} (hm : m < 64) (h1 : ∀ x, (g x).canLay0 = true) (h2 : ∀ x, (g x).depth ≤ m) (xs : List α) : SeqAt.shaped (.list (xs.map g)) = true := by
  unfold SeqAt.shaped
  rw [Bool.and_eq_true]
  refine ⟨by simp only [PyData.canLay0]; exact canLayAll0_map h1 xs, decide_eq_true ?_⟩
  have := depthAll_map h2 xs
  simp only [PyData.depth]; omega
theorem shaped_ints (ns : List Int) : SeqAt.shaped (.list (ns.map .int)) = true := shaped_map (m := 0) (by decide) (fun _ => by simp [PyData.canLay0]) (fun _ => by simp [PyData.depth]) ns
theorem shaped_opts (ns : List (Option Int)) : SeqAt.shaped (.list (ns.map optD)) = true := shaped_map (m := 0) (by decide) (fun x => by cases x <;> simp [optD, PyData.canLay0]) (fun x => by cases x <;> simp [optD, PyData.depth]) ns
theorem nob_ints (ns : List Int) : nob (.list (ns.map .int)) = true := by simp only [nob]; exact nobAll_map (fun _ => by simp [nob]) ns
theorem nob_opts (ns : List (Option Int)) : nob (.list (ns.map optD)) = true := by simp only [nob]; exact nobAll_map (fun x => by cases x <;> simp [optD, nob]) ns
theorem map_inj {α β : Type} {f : α → β} (h : ∀ a b, f a = f b → a = b) : ∀ {xs ys : List α}, xs.map f = ys.map f → xs = ys
  | [], [], _ => rfl
  | [], _ :: _, e => by simp at e
  | _ :: _, [], e => by simp at e
  | x :: xs, y :: ys, e => by
    simp only [List.map_cons, List.cons.injEq] at e
    rw [h x y e.1, map_inj h e.2]
theorem eqv_ints (ns ms : List Int) : PyData.eqv (.list (ns.map .int)) (.list (ms.map .int)) = decide (ns = ms) :=
  eqv_dec (nob_ints ns) (nob_ints ms) (by
    rw [decide_eq_true_iff]
    exact ⟨fun e => by rw [e], fun e => map_inj (fun a b h => PyData.int.inj h) (PyData.list.inj e)⟩)
theorem eqv_opts (ns ms : List (Option Int)) : PyData.eqv (.list (ns.map optD)) (.list (ms.map optD)) = decide (ns = ms) :=
  eqv_dec (nob_opts ns) (nob_opts ms) (by
    rw [decide_eq_true_iff]
    exact ⟨fun e => by rw [e], fun e => map_inj (fun a b h => by cases a <;> cases b <;> simp_all [optD]) (PyData.list.inj e)⟩)
section
variable {X : Cx}
/-- two lists of ints -/
def rEqIs (K : PySem.W.Frag) : R2 := fun x y H Q => ∃ (a b : Addr) (ns ms : List Int), x = .ref a ∧ y = .ref b ∧ SqL K H a (ns.map V.int) ∧ SqL K H b (ms.map V.int) ∧ Q (.bl (decide (ns = ms))) H
def rNeIs (K : PySem.W.Frag) : R2 := fun x y H Q => ∃ (a b : Addr) (ns ms : List Int), x = .ref a ∧ y = .ref b ∧ SqL K H a (ns.map V.int) ∧ SqL K H b (ms.map V.int) ∧ Q (.bl (!decide (ns = ms))) H
theorem op_eqIs (hu : X.A.units + 64 < cLine) : OpR X (compareOp .Eq) (rEqIs X.K) := opR_imp (op_eqD hu) fun _ _ _ _ ⟨a, b, ns, ms, e1, e2, h1, h2, q⟩ => by
  subst e1 e2
  exact ⟨_, _, dp_ints h1, dp_ints h2, shaped_ints ns, shaped_ints ms, by rw [eqv_ints]; exact q⟩
theorem op_neIs (hu : X.A.units + 64 < cLine) : OpR X (compareOp .NotEq) (rNeIs X.K) := opR_imp (op_neD hu) fun _ _ _ _ ⟨a, b, ns, ms, e1, e2, h1, h2, q⟩ => by
  subst e1 e2
  exact ⟨_, _, dp_ints h1, dp_ints h2, shaped_ints ns, shaped_ints ms, by rw [eqv_ints]; exact q⟩
end
/-! ### rules that hang on the written part, the part by its name (a comprehension's block has the same one) -/
section
variable {X : Cx} {K : PySem.W.Frag}
theorem op_notInK (h : X.K = K) : OpR X (compareOp .NotIn) (rIn K true) := h ▸ op_notIn_seq
theorem op_inK (h : X.K = K) : OpR X (compareOp .In) (rIn K false) := h ▸ op_in_seq
theorem ix_listK (h : X.K = K) : IxR X (rIxL K) := h ▸ ix_list
theorem ix_tupK (h : X.K = K) : IxR X (rIxT K) := h ▸ ix_tup
theorem ix_seqK (h : X.K = K) : IxR X (rIx K) := h ▸ ix_seq
theorem op_catK (h : X.K = K) : OpR X (binaryOp .Add) (rCatA K) := h ▸ op_catA
theorem sl_listK (h : X.K = K) : SlR X (rSlA K) := h ▸ sl_listA
theorem op_eqDK (hu : X.A.units + 64 < cLine) (h : X.K = K) : OpR X (compareOp .Eq) (rEqD K) := h ▸ op_eqD hu
theorem op_neDK (hu : X.A.units + 64 < cLine) (h : X.K = K) : OpR X (compareOp .NotEq) (rNeD K) := h ▸ op_neD hu
theorem units65 {k : Nat} {A : Around} (r : Room k A) : A.units + 65 < cLine := by have := r.un; omega
theorem op_inDK (hu : X.A.units + 65 < cLine) (h : X.K = K) : OpR X (compareOp .In) (rInD K) := h ▸ op_inD hu
theorem op_notInDK (hu : X.A.units + 65 < cLine) (h : X.K = K) : OpR X (compareOp .NotIn) (rNotInD K) := h ▸ op_notInD hu
theorem op_eqIsK (hu : X.A.units + 64 < cLine) (h : X.K = K) : OpR X (compareOp .Eq) (rEqIs K) := h ▸ op_eqIs hu
theorem op_neIsK (hu : X.A.units + 64 < cLine) (h : X.K = K) : OpR X (compareOp .NotEq) (rNeIs K) := h ▸ op_neIs hu
theorem call_isiK (h : X.K = K) : CallR X (.builtin "isinstance") (rIsi K) := h ▸ call_isi
theorem call_isiTK (h : X.K = K) : CallR X (.builtin "isinstance") (rIsiT K) := h ▸ call_isiT
def rLen (K : PySem.W.Frag) : List V → Hp → VK → Prop := fun xs H Q => ∃ x n, xs = [x] ∧ LenV K x H n ∧ Q (.int n) H
theorem call_lenK (h : X.K = K) : CallR X (.builtin "len") (rLen K) := h ▸ call_len
theorem cr_sumK (hc : X.calm = true) (h : X.K = K) : CallR X (.builtin "sum") (rSum K) := h ▸ cr_sum hc
theorem cr_maxK (hc : X.calm = true) (h : X.K = K) : CallR X (.builtin "max") (rMax K) := h ▸ cr_max hc
theorem cr_minK (hc : X.calm = true) (h : X.K = K) : CallR X (.builtin "min") (rMin K) := h ▸ cr_min hc
theorem cr_anyK (hc : X.calm = true) (h : X.K = K) : CallR X (.builtin "any") (rAny K) := h ▸ cr_any hc
theorem cr_allK (hc : X.calm = true) (h : X.K = K) : CallR X (.builtin "all") (rAll K) := h ▸ cr_all hc
theorem call_listK (h : X.K = K) : CallR X (.type "list") (rListA K) := h ▸ call_listA
theorem call_tupLK (h : X.K = K) : CallR X (.type "tuple") (rTupLA K) := h ▸ call_tupLA
theorem pe_fldK {e : Expr} {f : Str} {pos : Pos} {ta : TE} (h : X.K = K) (he : PE X e ta) (hb : attributeBase e f X.env (eval e X.env) = eval e X.env) : PE X (.Attribute e f pos) (tFld K ta f) := h ▸ pe_fld he hb
theorem pi_listK {tg l : Expr} {tl : TE} (h : X.K = K) (hl : PE X l tl) : PI X tg l (iList K tl) := h ▸ pi_list hl
theorem pi_tupK {tg l : Expr} {tl : TE} (h : X.K = K) (hl : PE X l tl) : PI X tg l (iTup K tl) := h ▸ pi_tup hl
theorem pi_enumK {e : Expr} {ta : TA} {p pos tpos : Pos} {elts : List Expr} {kk : Nat} (h : X.K = K) (hg : Gl X "enumerate") (hm : X.mg "enumerate" = none) (ha : PA X [e] ta) (hs : starEach [e] X.env = [(false, eval e X.env)] := by rfl) :
    PI X (.Tuple elts kk tpos) (.Call (.Name "enumerate" p) [e] [] pos) (iEnum K ta) := h ▸ pi_enum hg hm ha hs
theorem pi_zipK {e e2 : Expr} {ta : TA} {p pos tpos : Pos} {elts : List Expr} {kk : Nat} (h : X.K = K) (hg : Gl X "zip") (hm : X.mg "zip" = none) (ha : PA X [e, e2] ta)
    (hs : starEach [e, e2] X.env = (false, eval e X.env) :: starEach [e2] X.env := by rfl) (hpl : (backTo pos (starEach [e2] X.env)).any (·.1) = false := by rfl) :
    PI X (.Tuple elts kk tpos) (.Call (.Name "zip" p) [e, e2] [] pos) (iZip K ta) := h ▸ pi_zip hg hm ha hs hpl
end
/-- a statement with what comes behind it by a name: M holds at its end -/
theorem seq_key {t u : TS} {D : Ends} {σ : L2.St} {H : Hp} (M : L2.St → Hp → Prop) (h2 : ∀ σ H, M σ H → u D σ H) (h1 : ∀ N : L2.St → Hp → Prop, (∀ σ H, M σ H → N σ H) → t { D with nx := N } σ H) : tSeq t u D σ H := h1 _ h2
theorem isIf {a : TT} {b c d : TS} {D : Ends} {σ : L2.St} {H : Hp} (h : tSeq (tIfS a b c) d D σ H) : tSeq (tIfS a b c) d D σ H := h
theorem iteF' {c : Bool} {A B : Prop} (hc : c = false) (h : B) : if c = true then A else B := by
  subst hc; exact iteF h
theorem iteT' {c : Bool} {A B : Prop} (hc : c = true) (h : A) : if c = true then A else B := by
  subst hc; exact iteT h
theorem Dr.seqT {K : PySem.W.Frag} {H H' : Hp} {a b : Addr} {xs : List V} (e : Dr a H H') (n : b ≠ a) (h : SqT K H b xs) : SqT K H' b xs := by
  rcases h with (h | ⟨o, h⟩) | h
  · exact .inl (.inl (e.b _ _ n h))
  · exact .inl (.inr ⟨o, e.b _ _ n h⟩)
  · exact .inr h
theorem int_inj_dec {i j : Int} : decide (V.int i = V.int j) = decide (i = j) := decide_eq_decide.mpr ⟨V.int.inj, fun e => e ▸ rfl⟩
/-- an item of a short written list -/
theorem pick2 {P : V → Prop} {a b : V} {n : Int} (h0 : 0 ≤ n) (h1 : n < 2) (ha : P a) (hb : P b) : ∃ x, atI [a, b] n = some x ∧ P x := by
  have : n = 0 ∨ n = 1 := by omega
  rcases this with rfl | rfl
  · exact ⟨a, rfl, ha⟩
  · exact ⟨b, rfl, hb⟩
theorem pick3 {P : V → Prop} {a b c : V} {n : Int} (h0 : 0 ≤ n) (h1 : n < 3) (ha : P a) (hb : P b) (hc : P c) : ∃ x, atI [a, b, c] n = some x ∧ P x := by
  have : n = 0 ∨ n = 1 ∨ n = 2 := by omega
  rcases this with rfl | rfl | rfl
  · exact ⟨a, rfl, ha⟩
  · exact ⟨b, rfl, hb⟩
  · exact ⟨c, rfl, hc⟩
theorem pick4 {P : V → Prop} {a b c d : V} {n : Int} (h0 : 0 ≤ n) (h1 : n < 4) (ha : P a) (hb : P b) (hc : P c) (hd : P d) : ∃ x, atI [a, b, c, d] n = some x ∧ P x := by
  have : n = 0 ∨ n = 1 ∨ n = 2 ∨ n = 3 := by omega
  rcases this with rfl | rfl | rfl | rfl
  · exact ⟨a, rfl, ha⟩
  · exact ⟨b, rfl, hb⟩
  · exact ⟨c, rfl, hc⟩
  · exact ⟨d, rfl, hd⟩
theorem pick5 {P : V → Prop} {a b c d e : V} {n : Int} (h0 : 0 ≤ n) (h1 : n < 5) (ha : P a) (hb : P b) (hc : P c) (hd : P d) (he : P e) : ∃ x, atI [a, b, c, d, e] n = some x ∧ P x := by
  have : n = 0 ∨ n = 1 ∨ n = 2 ∨ n = 3 ∨ n = 4 := by omega
  rcases this with rfl | rfl | rfl | rfl | rfl
  · exact ⟨a, rfl, ha⟩
  · exact ⟨b, rfl, hb⟩
  · exact ⟨c, rfl, hc⟩
  · exact ⟨d, rfl, hd⟩
  · exact ⟨e, rfl, he⟩
theorem pick6 {P : V → Prop} {a b c d e f : V} {n : Int} (h0 : 0 ≤ n) (h1 : n < 6) (ha : P a) (hb : P b) (hc : P c) (hd : P d) (he : P e) (hf : P f) : ∃ x, atI [a, b, c, d, e, f] n = some x ∧ P x := by
  have : n = 0 ∨ n = 1 ∨ n = 2 ∨ n = 3 ∨ n = 4 ∨ n = 5 := by omega
  rcases this with rfl | rfl | rfl | rfl | rfl | rfl
  · exact ⟨a, rfl, ha⟩
  · exact ⟨b, rfl, hb⟩
  · exact ⟨c, rfl, hc⟩
  · exact ⟨d, rfl, hd⟩
  · exact ⟨e, rfl, he⟩
  · exact ⟨f, rfl, hf⟩
/-- an int within bounds -/
def InR (lo hi : Int) (x : V) : Prop := ∃ z, x = .int z ∧ lo ≤ z ∧ z < hi
/-! ### isinstance of plain things -/
section
variable {X : Cx}
def rIs (T : String) (ans : V → String → Bool) : List V → Hp → VK → Prop := fun xs H Q => ∃ x t, xs = [x, .ty T] ∧ Ty7 H x t ∧ Q (.bl (ans x t)) H
theorem call_isTy (T : String) (ans : V → String → Bool) (h : ∀ H x t, Ty7 H x t → kitB t T = some (ans x t)) : CallR X (.builtin "isinstance") (rIs T ans) :=
  callR_imp call_isi fun _ H Q ⟨x, t, e, ht, q⟩ => ⟨x, _, _, _, _, e, .ty _, ht.tx, kit_ty (h H x t ht), q⟩
theorem is_list : CallR X (.builtin "isinstance") (rIs "list" fun _ t => decide (t = "list")) := call_isTy _ _ fun _ _ _ h => h.kl
theorem is_tuple : CallR X (.builtin "isinstance") (rIs "tuple" fun _ t => decide (t = "tuple")) := call_isTy _ _ fun _ _ _ h => h.kt
theorem is_str : CallR X (.builtin "isinstance") (rIs "str" fun _ t => decide (t = "str")) := call_isTy _ _ fun _ _ _ h => h.ks
theorem is_int : CallR X (.builtin "isinstance") (rIs "int" fun x _ => isI x || isB x) := call_isTy _ _ fun _ _ _ h => h.ki
theorem is_bool : CallR X (.builtin "isinstance") (rIs "bool" fun x _ => isB x) := call_isTy _ _ fun _ _ _ h => h.kb
end
/-! ### comprehensions, shorter: one item for each, those that a test keeps, items that draw -/
section
variable {K : PySem.W.Frag} {a b s : Addr} {g : TG} {tt : TT} {te : TE} {vs : List Nat} {σ : L2.St} {H1 : Hp} {D : Addr} {Qd : Hp → Prop} {α β : Type}
abbrev LcG (I : It) (g : TG) (tt : TT) (te : TE) (vs : List Nat) (σ : L2.St) (H1 : Hp) (D : Addr) (Qd : Hp → Prop) : Prop :=
    ∃ W : Nat → Nat → Hp → Prop, (∃ m, W 0 m (upd H1 D (.lst []))) ∧ ∀ i m H, W i m H →
      (I.stop i H ∧ Qd H) ∨ (I.go i H ∧ ∃ Nx : Hp → Prop, (∀ H', Nx H' → ∃ m', m' < m ∧ W (i + 1) m' H') ∧ ∀ x H', I.yld i H x H' → g x (wipe σ vs) H' fun σ2 H2 => wipe σ2 vs = wipe σ vs ∧ tt σ2 H2 fun b H3 =>
        if b = true then te σ2 H3 fun y H4 => ∃ acc, H4 D = some (.lst acc) ∧ acc.length < sizeLine ∧ Nx (upd H4 D (.lst (acc ++ [y]))) else Nx H3)
def ysF (f : α → V) (q : α → Bool) (xs : List α) (i : Nat) : Option V := xs[i]?.bind fun x => if q x = true then some (f x) else none
theorem ysF_all (f : α → V) (q : α → Bool) (xs : List α) : lcYs xs.length (ysF f q xs) = (xs.filter q).map f := lcYs_filter q f xs _ fun i x h => by unfold ysF; rw [h]; rfl
theorem ysF_one (f : α → V) (xs : List α) : lcYs xs.length (ysF f (fun _ => true) xs) = xs.map f := by
  rw [ysF_all, List.filter_eq_self.mpr fun _ _ => rfl]
theorem of_map {ρ : α → V} {ys : List α} {i : Nat} {x : V} (h : (ys.map ρ)[i]? = some x) : ∃ y, ys[i]? = some y ∧ x = ρ y := by
  rw [List.getElem?_map] at h
  cases e : ys[i]? with
  | none => rw [e] at h; cases h
  | some z => rw [e] at h; exact ⟨z, rfl, (Option.some.inj h).symm⟩
theorem lcLf (ρ f : α → V) (q : α → Bool) {ys : List α} (hD : H1 D = none) (hx : SqL K H1 a (ys.map ρ)) (hn : ys.length ≤ 100000)
    (hs : ∀ (i : Nat) (y : α) (H : Hp) (Kt : V → Hp → Prop) (Kf : Hp → Prop), ys[i]? = some y → Same H1 H → (q y = true → ∀ H4, Same H H4 → Kt (f y) H4) → (q y = false → ∀ H4, Same H H4 → Kf H4) → LcT g tt te vs σ (ρ y) H Kt Kf)
    (hd : ∀ H, Same H1 H → H D = some (.lst ((ys.filter q).map f)) → Qd H) : LcG (Itl K a) g tt te vs σ H1 D Qd :=
  lcLq (ysF f q ys) hD hx (by rw [List.length_map]; exact hn) (fun i x H Kt Kf hxi s qq => by
    obtain ⟨y, hy, rfl⟩ := of_map hxi
    exact hs i y H Kt Kf hy s (fun e H4 s4 => qq.yes _ _ s4 (by unfold ysF; rw [hy]; exact if_pos e)) (fun e H4 s4 => qq.no _ s4 (by unfold ysF; rw [hy]; exact if_neg (by rw [e]; simp))))
    (fun H s h => hd H s (by rw [h, List.length_map, ysF_all]))
theorem lcLm (ρ f : α → V) {ys : List α} (hD : H1 D = none) (hx : SqL K H1 a (ys.map ρ)) (hn : ys.length ≤ 100000)
    (hs : ∀ (i : Nat) (y : α) (H : Hp) (Kt : V → Hp → Prop) (Kf : Hp → Prop), ys[i]? = some y → Same H1 H → (∀ H4, Same H H4 → Kt (f y) H4) → LcT g tt te vs σ (ρ y) H Kt Kf)
    (hd : ∀ H, Same H1 H → H D = some (.lst (ys.map f)) → Qd H) : LcG (Itl K a) g tt te vs σ H1 D Qd :=
  lcLf ρ f (fun _ => true) hD hx hn (fun i y H Kt Kf hy s h _ => hs i y H Kt Kf hy s (h rfl)) (fun H s h => hd H s (by rw [h, List.filter_eq_self.mpr fun _ _ => rfl]))
theorem lcTf (ρ f : α → V) (q : α → Bool) {ys : List α} (hD : H1 D = none) (hx : SqT K H1 a (ys.map ρ)) (hn : ys.length ≤ 100000)
    (hs : ∀ (i : Nat) (y : α) (H : Hp) (Kt : V → Hp → Prop) (Kf : Hp → Prop), ys[i]? = some y → Same H1 H → (q y = true → ∀ H4, Same H H4 → Kt (f y) H4) → (q y = false → ∀ H4, Same H H4 → Kf H4) → LcT g tt te vs σ (ρ y) H Kt Kf)
    (hd : ∀ H, Same H1 H → H D = some (.lst ((ys.filter q).map f)) → Qd H) : LcG (Itt K a) g tt te vs σ H1 D Qd :=
  lcTq (ysF f q ys) hD hx (by rw [List.length_map]; exact hn) (fun i x H Kt Kf hxi s qq => by
    obtain ⟨y, hy, rfl⟩ := of_map hxi
    exact hs i y H Kt Kf hy s (fun e H4 s4 => qq.yes _ _ s4 (by unfold ysF; rw [hy]; exact if_pos e)) (fun e H4 s4 => qq.no _ s4 (by unfold ysF; rw [hy]; exact if_neg (by rw [e]; simp))))
    (fun H s h => hd H s (by rw [h, List.length_map, ysF_all]))
theorem lcTm (ρ f : α → V) {ys : List α} (hD : H1 D = none) (hx : SqT K H1 a (ys.map ρ)) (hn : ys.length ≤ 100000)
    (hs : ∀ (i : Nat) (y : α) (H : Hp) (Kt : V → Hp → Prop) (Kf : Hp → Prop), ys[i]? = some y → Same H1 H → (∀ H4, Same H H4 → Kt (f y) H4) → LcT g tt te vs σ (ρ y) H Kt Kf)
    (hd : ∀ H, Same H1 H → H D = some (.lst (ys.map f)) → Qd H) : LcG (Itt K a) g tt te vs σ H1 D Qd :=
  lcTf ρ f (fun _ => true) hD hx hn (fun i y H Kt Kf hy s h _ => hs i y H Kt Kf hy s (h rfl)) (fun H s h => hd H s (by rw [h, List.filter_eq_self.mpr fun _ _ => rfl]))
theorem range_get {n i : Nat} (h : i < n) : (List.range n)[i]? = some i := List.getElem?_range h
theorem lcRf {lo : Int} {n : Nat} (f : Nat → V) (q : Nat → Bool) (hD : H1 D = none) (hn : n ≤ 100000)
    (hs : ∀ (i : Nat) (H : Hp) (Kt : V → Hp → Prop) (Kf : Hp → Prop), i < n → Same H1 H → (q i = true → ∀ H4, Same H H4 → Kt (f i) H4) → (q i = false → ∀ H4, Same H H4 → Kf H4) → LcT g tt te vs σ (.int (lo + i)) H Kt Kf)
    (hd : ∀ H, Same H1 H → H D = some (.lst (((List.range n).filter q).map f)) → Qd H) : LcG (Itr lo n) g tt te vs σ H1 D Qd :=
  lcRq (ysF f q (List.range n)) hD hn (fun i H Kt Kf hi s qq =>
    hs i H Kt Kf hi s (fun e H4 s4 => qq.yes _ _ s4 (by unfold ysF; rw [range_get hi]; exact if_pos e)) (fun e H4 s4 => qq.no _ s4 (by unfold ysF; rw [range_get hi]; exact if_neg (by rw [e]; simp))))
    (fun H s h => hd H s (by have := ysF_all f q (List.range n); rw [List.length_range] at this; rw [h, this]))
theorem lcRm {lo : Int} {n : Nat} (f : Nat → V) (hD : H1 D = none) (hn : n ≤ 100000)
    (hs : ∀ (i : Nat) (H : Hp) (Kt : V → Hp → Prop) (Kf : Hp → Prop), i < n → Same H1 H → (∀ H4, Same H H4 → Kt (f i) H4) → LcT g tt te vs σ (.int (lo + i)) H Kt Kf)
    (hd : ∀ H, Same H1 H → H D = some (.lst ((List.range n).map f)) → Qd H) : LcG (Itr lo n) g tt te vs σ H1 D Qd :=
  lcRf f (fun _ => true) hD hn (fun i H Kt Kf hi s h _ => hs i H Kt Kf hi s (h rfl)) (fun H s h => hd H s (by rw [h, List.filter_eq_self.mpr fun _ _ => rfl]))
/-- items that draw from the source at s -/
theorem lcRd {lo : Int} {n : Nat} (ρ : β → V) (R : Nat → β → Prop) (h0 : Src H1 s) (hD : H1 D = none) (hn : n ≤ 100000)
    (hs : ∀ (i : Nat) (H : Hp) (Kt : V → Hp → Prop) (Kf : Hp → Prop), i < n → Dr s H1 H → (∀ b H4, Dr s H H4 → R i b → Kt (ρ b) H4) → LcT g tt te vs σ (.int (lo + i)) H Kt Kf)
    (hd : ∀ (us : List β) (H : Hp), Dr s H1 H → us.length = n → (∀ (i : Nat) (b : β), us[i]? = some b → R i b) → D ≠ s → H D = some (.lst (us.map ρ)) → Qd H) : LcG (Itr lo n) g tt te vs σ H1 D Qd :=
  have nD : D ≠ s := h0.ne hD
  lcR (fun i acc H' => Dr s H1 H' ∧ ∃ us : List β, acc = us.map ρ ∧ us.length = i ∧ ∀ (i : Nat) (b : β), us[i]? = some b → R i b)
    (fun H' s' _ => ⟨Dr.of h0 s', [], rfl, rfl, fun i b h => by cases h⟩) hD (fun i acc H' Kt Kf hi p e kk => by
      obtain ⟨dp, us, rfl, hul, hub⟩ := p
      exact hs i H' Kt Kf hi dp fun b H4 d4 hR => kk.yes _ _ (d4.app nD e) (Nat.lt_of_lt_of_le (show _ < 100001 by rw [List.length_map]; omega) (by decide)) fun H5 b5 g5 => ⟨Dr.mut (dp.trans d4) b5 hD nD.symm, us ++ [b], by rw [List.map_append]; rfl, by rw [List.length_append, hul]; rfl, fun j c hc => by
        by_cases hj : j < us.length
        · rw [List.getElem?_append_left hj] at hc; exact hub j c hc
        · have hj2 : j = i := by
            have := (List.getElem?_eq_some_iff.mp hc).1
            rw [List.length_append] at this
            simp at this; omega
          subst hj2
          rw [← hul, List.getElem?_concat_length] at hc
          cases hc; exact hR⟩)
    (fun acc H' p e => by
      obtain ⟨dp, us, rfl, hul, hub⟩ := p
      exact hd us H' dp hul hub nD e)
theorem lcLd (ρ0 : α → V) (ρ : β → V) (R : Nat → β → Prop) {ys : List α} (h0 : Src H1 s) (hD : H1 D = none) (na : a ≠ s) (hx : SqL K H1 a (ys.map ρ0)) (hn : ys.length ≤ 100000)
    (hs : ∀ (i : Nat) (y : α) (H : Hp) (Kt : V → Hp → Prop) (Kf : Hp → Prop), ys[i]? = some y → Dr s H1 H → (∀ b H4, Dr s H H4 → R i b → Kt (ρ b) H4) → LcT g tt te vs σ (ρ0 y) H Kt Kf)
    (hd : ∀ (us : List β) (H : Hp), Dr s H1 H → us.length = ys.length → (∀ (i : Nat) (b : β), us[i]? = some b → R i b) → D ≠ s → H D = some (.lst (us.map ρ)) → Qd H) : LcG (Itl K a) g tt te vs σ H1 D Qd :=
  have nD : D ≠ s := h0.ne hD
  lcL (fun i acc H' => Dr s H1 H' ∧ ∃ us : List β, acc = us.map ρ ∧ us.length = i ∧ ∀ (i : Nat) (b : β), us[i]? = some b → R i b)
    (fun H' s' _ => ⟨Dr.of h0 s', [], rfl, rfl, fun i b h => by cases h⟩) hD (fun i acc H' p => p.1.seq na hx) (fun i x acc H' Kt Kf hxi p e kk => by
      obtain ⟨y, hy, rfl⟩ := of_map hxi
      have hi := (List.getElem?_eq_some_iff.mp hy).1
      obtain ⟨dp, us, rfl, hul, hub⟩ := p
      exact hs i y H' Kt Kf hy dp fun b H4 d4 hR => kk.yes _ _ (d4.app nD e) (Nat.lt_of_lt_of_le (show _ < 100001 by rw [List.length_map]; omega) (by decide)) fun H5 b5 g5 => ⟨Dr.mut (dp.trans d4) b5 hD nD.symm, us ++ [b], by rw [List.map_append]; rfl, by rw [List.length_append, hul]; rfl, fun j c hc => by
        by_cases hj : j < us.length
        · rw [List.getElem?_append_left hj] at hc; exact hub j c hc
        · have hj2 : j = i := by
            have := (List.getElem?_eq_some_iff.mp hc).1
            rw [List.length_append] at this
            simp at this; omega
          subst hj2
          rw [← hul, List.getElem?_concat_length] at hc
          cases hc; exact hR⟩)
    (fun acc H' p e => by
      obtain ⟨dp, us, rfl, hul, hub⟩ := p
      rw [List.length_map] at hul
      exact hd us H' dp hul hub nD e)
/-- items that are new objects: R holds of each, as long as nothing but the list itself changes -/
theorem lcLs (ρ0 : α → V) {ys : List α} (R : Nat → V → Hp → Prop) (mono : ∀ i v H H' acc, R i v H → H D = some (.lst acc) → But D H H' → R i v H') (hD : H1 D = none) (hx : SqL K H1 a (ys.map ρ0)) (hn : ys.length ≤ 100000)
    (hs : ∀ (i : Nat) (y : α) (H : Hp) (Kt : V → Hp → Prop) (Kf : Hp → Prop) (acc : List V), ys[i]? = some y → Same H1 H → H D = some (.lst acc) → (∀ v H4, Same H H4 → R i v H4 → Kt v H4) → LcT g tt te vs σ (ρ0 y) H Kt Kf)
    (hd : ∀ (us : List V) (H : Hp), Same H1 H → us.length = ys.length → (∀ (i : Nat) (b : V), us[i]? = some b → R i b H) → H D = some (.lst us) → Qd H) : LcG (Itl K a) g tt te vs σ H1 D Qd :=
  lcL (fun i acc H' => Same H1 H' ∧ acc.length = i ∧ ∀ (i : Nat) (b : V), acc[i]? = some b → R i b H')
    (fun H' s' _ => ⟨s', rfl, fun i b h => by cases h⟩) hD (fun i acc H' p => p.1.seq hx) (fun i x acc H' Kt Kf hxi p e kk => by
      obtain ⟨y, hy, rfl⟩ := of_map hxi
      have hi := (List.getElem?_eq_some_iff.mp hy).1
      obtain ⟨dp, hul, hub⟩ := p
      exact hs i y H' Kt Kf acc hy dp e fun b H4 s4 hR => kk.yes _ _ (s4 _ _ e) (Nat.lt_of_lt_of_le (show _ < 100001 by omega) (by decide)) fun H5 b5 g5 => ⟨Same.mut' (dp.trans s4) b5 hD, by rw [List.length_append, hul]; rfl, fun j c hc => by
        by_cases hj : j < acc.length
        · rw [List.getElem?_append_left hj] at hc
          exact mono _ _ _ _ _ (mono _ _ _ _ _ (hub j c hc) e (Same.but s4)) (s4 _ _ e) b5
        · have hj2 : j = i := by
            have := (List.getElem?_eq_some_iff.mp hc).1
            rw [List.length_append] at this
            simp at this; omega
          subst hj2
          rw [← hul, List.getElem?_concat_length] at hc
          cases hc; exact mono _ _ _ _ _ hR (s4 _ _ e) b5⟩)
    (fun acc H' p e => by
      obtain ⟨dp, hul, hub⟩ := p
      rw [List.length_map] at hul
      exact hd acc H' dp hul hub e)
/-- items that are drawn and are new objects -/
theorem lcRo {lo : Int} {n : Nat} (R : Nat → V → Hp → Prop) (monoD : ∀ i v H H' acc, R i v H → H D = some (.lst acc) → But D H H' → R i v H') (monoS : ∀ i v H H', R i v H → Src H s → Dr s H H' → R i v H') (h0 : Src H1 s) (hD : H1 D = none) (hn : n ≤ 100000)
    (hs : ∀ (i : Nat) (H : Hp) (Kt : V → Hp → Prop) (Kf : Hp → Prop) (acc : List V), i < n → Dr s H1 H → H D = some (.lst acc) → (∀ v H4, Dr s H H4 → R i v H4 → Kt v H4) → LcT g tt te vs σ (.int (lo + i)) H Kt Kf)
    (hd : ∀ (us : List V) (H : Hp), Dr s H1 H → us.length = n → (∀ (i : Nat) (b : V), us[i]? = some b → R i b H) → D ≠ s → H D = some (.lst us) → Qd H) : LcG (Itr lo n) g tt te vs σ H1 D Qd :=
  have nD : D ≠ s := h0.ne hD
  lcR (fun i acc H' => Dr s H1 H' ∧ acc.length = i ∧ ∀ (i : Nat) (b : V), acc[i]? = some b → R i b H')
    (fun H' s' _ => ⟨Dr.of h0 s', rfl, fun i b h => by cases h⟩) hD (fun i acc H' Kt Kf hi p e kk => by
      obtain ⟨dp, hul, hub⟩ := p
      exact hs i H' Kt Kf acc hi dp e fun b H4 d4 hR => kk.yes _ _ (d4.app nD e) (Nat.lt_of_lt_of_le (show _ < 100001 by omega) (by decide)) fun H5 b5 g5 => ⟨Dr.mut (dp.trans d4) b5 hD nD.symm, by rw [List.length_append, hul]; rfl, fun j c hc => by
        by_cases hj : j < acc.length
        · rw [List.getElem?_append_left hj] at hc
          exact monoD _ _ _ _ _ (monoS _ _ _ _ (hub j c hc) dp.s d4) (d4.app nD e) b5
        · have hj2 : j = i := by
            have := (List.getElem?_eq_some_iff.mp hc).1
            rw [List.length_append] at this
            simp at this; omega
          subst hj2
          rw [← hul, List.getElem?_concat_length] at hc
          cases hc; exact monoD _ _ _ _ _ hR (d4.app nD e) b5⟩)
    (fun acc H' p e => by
      obtain ⟨dp, hul, hub⟩ := p
      exact hd acc H' dp hul hub nD e)
/-- over a list that stands for another one -/
theorem lcLr {xs : List V} {qs : List α} (f : α → V) (q : α → Bool) (hl : xs.length = qs.length) (hD : H1 D = none) (hx : SqL K H1 a xs) (hn : xs.length ≤ 100000)
    (hs : ∀ (i : Nat) (x : V) (y : α) (H : Hp) (Kt : V → Hp → Prop) (Kf : Hp → Prop), xs[i]? = some x → qs[i]? = some y → Same H1 H → (q y = true → ∀ H4, Same H H4 → Kt (f y) H4) → (q y = false → ∀ H4, Same H H4 → Kf H4) → LcT g tt te vs σ x H Kt Kf)
    (hd : ∀ H, Same H1 H → H D = some (.lst ((qs.filter q).map f)) → Qd H) : LcG (Itl K a) g tt te vs σ H1 D Qd :=
  lcLq (ysF f q qs) hD hx hn (fun i x H Kt Kf hxi s qq => by
    have hi := (List.getElem?_eq_some_iff.mp hxi).1
    have hy : qs[i]? = some qs[i] := List.getElem?_eq_getElem (by omega)
    exact hs i x _ H Kt Kf hxi hy s (fun e H4 s4 => qq.yes _ _ s4 (by unfold ysF; rw [hy]; exact if_pos e)) (fun e H4 s4 => qq.no _ s4 (by unfold ysF; rw [hy]; exact if_neg (by rw [e]; simp))))
    (fun H s h => hd H s (by rw [h, hl, ysF_all]))
/-- over zip, by places -/
theorem lcZf {xs zs : List V} {n : Nat} (X Z f : Nat → V) (q : Nat → Bool) (lx : xs.length = n) (lz : zs.length = n) (hX : ∀ i, i < n → xs[i]? = some (X i)) (hZ : ∀ i, i < n → zs[i]? = some (Z i)) (hD : H1 D = none) (hx : SqL K H1 a xs) (hz : SqL K H1 b zs) (hn : n ≤ 100000)
    (hs : ∀ (i : Nat) (T : Addr) (H : Hp) (Kt : V → Hp → Prop) (Kf : Hp → Prop), i < n → Same H1 H → H T = some (.tup [X i, Z i]) → (q i = true → ∀ H4, Same H H4 → Kt (f i) H4) → (q i = false → ∀ H4, Same H H4 → Kf H4) → LcT g tt te vs σ (.ref T) H Kt Kf)
    (hd : ∀ H, Same H1 H → H D = some (.lst (((List.range n).filter q).map f)) → Qd H) : LcG (Itz K a b) g tt te vs σ H1 D Qd :=
  lcZq (xs := xs) (zs := zs) (ysF f q (List.range n)) (by rw [lx, lz]) hD hx hz (by omega) (fun i x z T H Kt Kf hxi hzi s gT qq => by
    have hi : i < n := by have := (List.getElem?_eq_some_iff.mp hxi).1; omega
    rw [hX i hi] at hxi
    rw [hZ i hi] at hzi
    cases hxi
    cases hzi
    exact hs i T H Kt Kf hi s gT (fun e H4 s4 => qq.yes _ _ s4 (by unfold ysF; rw [range_get hi]; exact if_pos e)) (fun e H4 s4 => qq.no _ s4 (by unfold ysF; rw [range_get hi]; exact if_neg (by rw [e]; simp))))
    (fun H s h => hd H s (by have := ysF_all f q (List.range n); rw [List.length_range] at this; rw [h, lx, this]))
theorem lcZm {xs zs : List V} {n : Nat} (X Z f : Nat → V) (lx : xs.length = n) (lz : zs.length = n) (hX : ∀ i, i < n → xs[i]? = some (X i)) (hZ : ∀ i, i < n → zs[i]? = some (Z i)) (hD : H1 D = none) (hx : SqL K H1 a xs) (hz : SqL K H1 b zs) (hn : n ≤ 100000)
    (hs : ∀ (i : Nat) (T : Addr) (H : Hp) (Kt : V → Hp → Prop) (Kf : Hp → Prop), i < n → Same H1 H → H T = some (.tup [X i, Z i]) → (∀ H4, Same H H4 → Kt (f i) H4) → LcT g tt te vs σ (.ref T) H Kt Kf)
    (hd : ∀ H, Same H1 H → H D = some (.lst ((List.range n).map f)) → Qd H) : LcG (Itz K a b) g tt te vs σ H1 D Qd :=
  lcZf X Z f (fun _ => true) lx lz hX hZ hD hx hz hn (fun i T H Kt Kf hi s gT h _ => hs i T H Kt Kf hi s gT (h rfl)) (fun H s h => hd H s (by rw [h, List.filter_eq_self.mpr fun _ _ => rfl]))
/-- over a list, by places -/
theorem lcLxf {xs : List V} (f : Nat → V) (q : Nat → Bool) (hD : H1 D = none) (hx : SqL K H1 a xs) (hn : xs.length ≤ 100000)
    (hs : ∀ (i : Nat) (x : V) (H : Hp) (Kt : V → Hp → Prop) (Kf : Hp → Prop), xs[i]? = some x → Same H1 H → (q i = true → ∀ H4, Same H H4 → Kt (f i) H4) → (q i = false → ∀ H4, Same H H4 → Kf H4) → LcT g tt te vs σ x H Kt Kf)
    (hd : ∀ H, Same H1 H → H D = some (.lst (((List.range xs.length).filter q).map f)) → Qd H) : LcG (Itl K a) g tt te vs σ H1 D Qd :=
  lcLq (ysF f q (List.range xs.length)) hD hx hn (fun i x H Kt Kf hxi s qq => by
    have hi := (List.getElem?_eq_some_iff.mp hxi).1
    exact hs i x H Kt Kf hxi s (fun e H4 s4 => qq.yes _ _ s4 (by unfold ysF; rw [range_get hi]; exact if_pos e)) (fun e H4 s4 => qq.no _ s4 (by unfold ysF; rw [range_get hi]; exact if_neg (by rw [e]; simp))))
    (fun H s h => hd H s (by have := ysF_all f q (List.range xs.length); rw [List.length_range] at this; rw [h, this]))
theorem lcLx {xs : List V} (f : Nat → V) (hD : H1 D = none) (hx : SqL K H1 a xs) (hn : xs.length ≤ 100000)
    (hs : ∀ (i : Nat) (x : V) (H : Hp) (Kt : V → Hp → Prop) (Kf : Hp → Prop), xs[i]? = some x → Same H1 H → (∀ H4, Same H H4 → Kt (f i) H4) → LcT g tt te vs σ x H Kt Kf)
    (hd : ∀ H, Same H1 H → H D = some (.lst ((List.range xs.length).map f)) → Qd H) : LcG (Itl K a) g tt te vs σ H1 D Qd :=
  lcLxf f (fun _ => true) hD hx hn (fun i x H Kt Kf hx s h _ => hs i x H Kt Kf hx s (h rfl)) (fun H s h => hd H s (by rw [h, List.filter_eq_self.mpr fun _ _ => rfl]))
end
theorem all_true (n : Nat) : ((List.range n).map fun _ => true).all id = true := by simp
theorem bls (n : Nat) (f : Nat → Bool) : (List.range n).map (fun i => V.bl (f i)) = ((List.range n).map f).map V.bl := by rw [List.map_map]; rfl
/-- isinstance(x, (T1, T2)) of plain things -/
def rIs2 (T1 T2 : String) (ans : V → String → Bool) : List V → Hp → VK → Prop := fun xs H Q => ∃ (x : V) (tp : Addr) (t : String), xs = [x, .ref tp] ∧ Ty7 H x t ∧ H tp = some (.tup [.ty T1, .ty T2]) ∧ Q (.bl (ans x t)) H
theorem call_isTy2 {X : Cx} (T1 T2 : String) (a1 a2 : V → String → Bool) (h1 : ∀ H x t, Ty7 H x t → kitB t T1 = some (a1 x t)) (h2 : ∀ H x t, Ty7 H x t → kitB t T2 = some (a2 x t)) : CallR X (.builtin "isinstance") (rIs2 T1 T2 fun x t => a1 x t || a2 x t) :=
  callR_imp call_isiT fun _ H Q ⟨x, tp, t, e, ht, hp, q⟩ => ⟨x, tp, [.ty T1, .ty T2], _, [.type T1, .type T2], _, e, hp, .cons (.ty _) (.cons (.ty _) .nil), ht.tx, kitAny_cons (b := a1 x t) (kit_ty (h1 H x t ht)) (fun e1 => kitAny_cons (b := a2 x t) (kit_ty (h2 H x t ht)) (fun e2 => by simp only [e1, e2]; rfl) (fun e2 => by simp only [e1, e2]; rfl)) (fun e1 => by simp only [e1]; rfl), q⟩
theorem is_strtup {X : Cx} : CallR X (.builtin "isinstance") (rIs2 "str" "tuple" fun _ t => decide (t = "str") || decide (t = "tuple")) := call_isTy2 _ _ (fun _ t => decide (t = "str")) (fun _ t => decide (t = "tuple")) (fun _ _ _ h => h.ks) (fun _ _ _ h => h.kt)
/-- a list or a tuple -/
def SqE (K : PySem.W.Frag) (H : Hp) (a : Addr) (xs : List V) : Prop := SqL K H a xs ∨ SqT K H a xs
theorem SqE.same {K : PySem.W.Frag} {H H' : Hp} {a : Addr} {xs : List V} (h : SqE K H a xs) (s : Same H H') : SqE K H' a xs := h.imp (fun h => s.seq h) (fun h => Same.seqT s h)
theorem But.seqT {K : PySem.W.Frag} {H H' : Hp} {a b : Addr} {xs : List V} (e : But a H H') (n : b ≠ a) (h : SqT K H b xs) : SqT K H' b xs := by
  rcases h with (h | ⟨o, h⟩) | h
  · exact .inl (.inl (e _ _ n h))
  · exact .inl (.inr ⟨o, e _ _ n h⟩)
  · exact .inr h
theorem SqE.but {K : PySem.W.Frag} {H H' : Hp} {a b : Addr} {xs : List V} (h : SqE K H b xs) (e : But a H H') (n : b ≠ a) : SqE K H' b xs := h.imp (fun h => e.seq n h) (fun h => e.seqT n h)
theorem ixE {K : PySem.W.Frag} {H : Hp} {a : Addr} {xs : List V} {i : Int} {v : V} {Q : VK} (h : SqE K H a xs) (e : atI xs i = some v) (q : Q v H) : rIx K (.ref a) (.int i) H Q := by
  rcases h with h | h
  · exact .inl ⟨_, _, _, _, rfl, rfl, h, e, q⟩
  · exact .inr (.inl ⟨_, _, _, _, rfl, rfl, h, e, q⟩)
theorem atI_add {xs : List V} {f i : Nat} {v : V} (h : xs[f + i]? = some v) : atI xs ((f : Int) + (i : Int)) = some v := by
  rw [← Int.natCast_add]; exact atI_nat h
theorem pick_list {α : Type} {P : V → α → Prop} : ∀ (us : List V), (∀ (i : Nat) (v : V), us[i]? = some v → ∃ t, P v t) → ∃ ts : List α, us.length = ts.length ∧ ∀ (i : Nat) (v : V) (t : α), us[i]? = some v → ts[i]? = some t → P v t
  | [], _ => ⟨[], rfl, fun i v t h => by simp at h⟩
  | u :: us, h => by
    obtain ⟨t, ht⟩ := h 0 u rfl
    obtain ⟨ts, hl, hts⟩ := pick_list us fun i v hv => h (i + 1) v hv
    refine ⟨t :: ts, by rw [List.length_cons, List.length_cons, hl], fun i v t' hv ht' => ?_⟩
    cases i with
    | zero => cases hv; cases ht'; exact ht
    | succ i => exact hts i v t' hv ht'
end My

open PySem L2 My
/-! ### short steps -/
local macro_rules | `(tactic| tm_at "hp") => `(tactic| first
  | with_reducible assumption
  | exact upd_same
  | (with_reducible refine upd_keep ?hpn ?hpr; (case hpn => with_reducible assumption); (case hpr => tm_at "hp"))
  | (refine Eq.trans (upd_ne ?hpn) ?hpr; (case hpn => tm_at "ne"); (case hpr => tm_at "hp"))
  | (refine' Same.app ?hps ?hpr; (case hps => with_reducible assumption); (case hpr => tm_at "hp"))
  | (refine' Dr.app ?hps ?hpn ?hpr; (case hps => with_reducible assumption); (case hpr => tm_at "hp"); (case hpn => tm_at "ne"))
  | (refine' But.app ?hps ?hpn ?hpr; (case hps => with_reducible assumption); (case hpr => tm_at "hp"); (case hpn => tm_at "ne")))
local macro_rules | `(tactic| tm_at "ne") => `(tactic| first
  | with_reducible assumption
  | (with_reducible refine Ne.symm ?nes; (case nes => with_reducible assumption))
  | (refine' ne_of_none ?nea ?neb; (case neb => with_reducible assumption); (case nea => tm_at "hp"))
  | (refine' Src.ne ?nea ?neb; (case neb => with_reducible assumption); (case nea => tm_at "sr"))
  | (refine' Ne.symm (Src.ne ?nea ?neb); (case neb => with_reducible assumption); (case nea => tm_at "sr"))
  | (refine' Ne.symm (ne_of_none ?nea ?neb); (case neb => with_reducible assumption); (case nea => tm_at "hp")))
/-- a list, a tuple that stands -/
local macro_rules | `(tactic| tm_at "sql") => `(tactic| first
  | with_reducible assumption
  | (refine sqL ?sqa; (case sqa => tm_at "hp"))
  | (refine' Same.seq ?sqs ?sqa; (case sqs => with_reducible assumption); (case sqa => tm_at "sql"))
  | (refine' Dr.seq ?sqs ?sqn ?sqa; (case sqs => with_reducible assumption); (case sqa => tm_at "sql"); (case sqn => tm_at "ne"))
  | (refine' But.seq ?sqs ?sqn ?sqa; (case sqs => with_reducible assumption); (case sqa => tm_at "sql"); (case sqn => tm_at "ne")))
/-- all but a stands; all stands -/
local macro_rules | `(tactic| tm_at "bt") => `(tactic| first
  | with_reducible assumption
  | with_reducible exact But.refl
  | (with_reducible refine But.upd ?btx; (case btx => tm_at "bt"))
  | (with_reducible refine But.new ?btx ?bty; (case bty => with_reducible assumption); (case btx => tm_at "bt"))
  | (refine' But.trans ?btx ?bty; (case bty => with_reducible assumption); (case btx => tm_at "bt"))
  | (refine' But.trans ?btx (Same.but ?bty); (case bty => with_reducible assumption); (case btx => tm_at "bt")))
local macro_rules | `(tactic| tm_at "sm") => `(tactic| first
  | with_reducible assumption
  | with_reducible exact Same.refl _
  | (with_reducible refine Same.new ?btx ?bty; (case bty => with_reducible assumption); (case btx => tm_at "sm"))
  | (with_reducible refine Same.mut ?btx ?bty; (case bty => with_reducible assumption); (case btx => tm_at "sm"))
  | (refine' Same.mut' ?btx ?bty ?btn; (case bty => with_reducible assumption); (case btx => tm_at "sm"); (case btn => tm_at "fr"))
  | (refine' Same.trans ?btx ?bty; (case bty => with_reducible assumption); (case btx => tm_at "sm")))
/-- the source stands; draws from there to here -/
local macro_rules | `(tactic| tm_at "sr") => `(tactic| first
  | with_reducible assumption
  | (refine' Dr.s ?srd; (case srd => with_reducible assumption))
  | (refine' Src.same ?srh ?srd; (case srd => with_reducible assumption); (case srh => tm_at "sr"))
  | (refine' Src.but ?srh ?srd ?srn; (case srd => with_reducible assumption); (case srh => tm_at "sr"); (case srn => tm_at "ne")))
local macro_rules | `(tactic| tm_at "dr") => `(tactic| first
  | with_reducible assumption
  | (refine' Dr.trans ?drx ?dry; (case dry => with_reducible assumption); (case drx => tm_at "dr"))
  | (refine' Dr.same ?drx ?dry; (case dry => with_reducible assumption); (case drx => tm_at "dr"))
  | (refine' Dr.mut ?drx ?dry ?drn ?drm; (case dry => with_reducible assumption); (case drx => tm_at "dr"); (case drn => tm_at "fr"); (case drm => tm_at "ne"))
  | (refine' Dr.of ?drx ?dry; (case drx => tm_at "sr"); (case dry => tm_at "sm"))
  | (refine Dr.refl ?drx; (case drx => tm_at "sr")))
/-- nothing stood there -/
local macro_rules | `(tactic| tm_at "fr") => `(tactic| first
  | with_reducible assumption
  | (refine' Same.free ?frs ?frh; (case frh => with_reducible assumption); (case frs => tm_at "sm"))
  | (refine' Dr.free ?frs ?frh ?frn; (case frh => with_reducible assumption); (case frs => tm_at "dr"); (case frn => tm_at "ne")))
/-- an int's condition -/
local macro_rules | `(tactic| tm_at "ic") => `(tactic| first
  | assumption
  | omega
  | exact Nat.le_of_ble_eq_true rfl
  | exact ⟨by decide, by decide +kernel⟩
  | exact Or.inr ⟨by omega, by omega⟩
  | exact Or.inl ⟨by omega, by omega⟩
  | exact Or.inr ⟨by decide, by decide⟩
  | exact ⟨by decide, by decide, by decide⟩
  | exact wide_div (b := 64) (by omega) (by omega) (by decide) (by decide)
  | decide
  | tm_at "sr")
/-- a plain thing's kind -/
local macro_rules | `(tactic| tm_at "t7") => `(tactic| first
  | with_reducible assumption
  | with_reducible exact Ty7.int _
  | with_reducible exact Ty7.bl _
  | with_reducible exact Ty7.non
  | with_reducible exact Ty7.str _
  | (refine' Ty7.lst ?t7h; (case t7h => tm_at "hp"))
  | (refine' Ty7.tup ?t7h; (case t7h => tm_at "hp")))
/-- one step of a reading -/
local macro_rules | `(tactic| tm_at "rd") => `(tactic| first
  | refine ⟨_, rfl, ?_⟩
  | refine ⟨_, _, rfl, rfl, ?_⟩
  | (refine And.intro ?rdc ?_; (case rdc => (first | tm_at "ic" | (dsimp only; tm_at "ic"))))
  | refine ⟨_, _, rfl, ?_⟩
  | refine ⟨rfl, ?_⟩
  | (refine' ⟨_, _, rfl, ?rd7, ?_⟩; (case rd7 => tm_at "t7"))
  | (refine' ⟨_, _, rfl, Or.inl ⟨_, ?rdl, rfl⟩, ?_⟩; (case rdl => tm_at "sql"))
  | refine Or.inl ⟨_, rfl, ?_⟩
  | refine Or.inr ⟨_, rfl, ?_⟩)
local macro_rules | `(tactic| tm_at "rds") => `(tactic| repeat (tm_at "rd"))
/-- a tuple that stands -/
local macro_rules | `(tactic| tm_at "sqt") => `(tactic| first
  | with_reducible assumption
  | (refine sqT ?sqa; (case sqa => tm_at "hp"))
  | (refine' Same.seqT ?sqs ?sqa; (case sqs => with_reducible assumption); (case sqa => tm_at "sqt"))
  | (refine' Dr.seqT ?sqs ?sqn ?sqa; (case sqs => with_reducible assumption); (case sqa => tm_at "sqt"); (case sqn => tm_at "ne")))
/-- more steps: tests that are plain, items by a plain index, the length of a tuple -/
local macro_rules | `(tactic| tm_at "rz") => `(tactic| first
  | (refine' And.intro (Or.inl (And.intro rfl (Exists.intro _ ?rzt))) ?_; (case rzt => tm_at "sql"))
  | tm_at "rd"
  | (refine' ⟨_, _, rfl, Or.inr ⟨_, ?rdl, rfl⟩, ?_⟩; (case rdl => tm_at "sqt"))
  | (refine' ⟨_, _, _, _, rfl, rfl, ?rzl, ?rzi, ?_⟩; (case rzl => (first | tm_at "sql" | tm_at "sqt")); (case rzi => exact rfl))
  | (refine iteF' ?rzb ?_; (case rzb => (first | with_reducible rfl | rfl | decide)))
  | (refine iteT' ?rzb ?_; (case rzb => (first | with_reducible rfl | rfl | decide))))
local macro_rules | `(tactic| tm_at "rzs") => `(tactic| repeat (tm_at "rz"))
/-- .. up to an if that has something behind it -/
local macro_rules | `(tactic| tm_at "rzi") => `(tactic| repeat ((try dsimp only [gName]); (fail_if_success (with_reducible refine isIf ?_)); tm_at "rz"))
/-! ### own errors -/
namespace My
open PySem PySem.Spec PyProof.Rows L2
structure Ex (K : PySem.W.Frag) (mg : Str → Option Value) (x : Str) where
  C : Addr
  g : mg x = some (.ref C)
  x : PySem.W.excIn K C [.type "ValueError", .type "Exception", .type "BaseException", .type "object"] "ValueError.__new__" = true
  k : PySem.W.keepIn K (.ref C) = true
  b : PySem.W.subIn K (.ref C) (.type "BaseException") = some true
  t : PySem.W.typeIn K (.ref C) = some (.type "type")
  E : ExcC K C
def ex_mk {K : PySem.W.Frag} {mg : Str → Option Value} {x : Str} {h : Heap} (X : K.In h) (G : h.Ns mainGlobals mg) {C : Addr} (g : PySem.W.nsIn K mainGlobals x = some (some (.ref C)))
    (x1 : PySem.W.excIn K C [.type "ValueError", .type "Exception", .type "BaseException", .type "object"] "ValueError.__new__" = true) (x2 : PySem.W.keepIn K (.ref C) = true) (x3 : PySem.W.subIn K (.ref C) (.type "BaseException") = some true) (x4 : PySem.W.typeIn K (.ref C) = some (.type "type"))
    (y1 : PySem.W.findIn K (.ref C) "__getattribute__" = some (some (.builtin "BaseException.__getattribute__"))) (y2 : PySem.W.findIn K (.ref C) "__getattr__" = some none) (y3 : PySem.W.hasDictIn K C = true) (y4 : PySem.W.findIn K (.ref C) "__class__" = some (some (.builtin "object.__class__")))
    (y5 : PySem.W.specialIn K (.builtin "object.__class__") "__get__" = some (some (.builtin "getset_descriptor.__get__"))) (y6 : PySem.W.takesIn K (.builtin "object.__class__") = some true) (y7 : PySem.W.mroIn K C (.type "object") = some true) : Ex K mg x :=
  ⟨C, PySem.W.mg_of X G g, x1, x2, x3, x4, ⟨y1, y2, x3, y3, y4, y5, y6, y7⟩⟩
section
variable {K : PySem.W.Frag} {mg : Str → Option Value} {x y : Str} {cv : Value} {b : Bool}
theorem Ex.exm (e : Ex K mg x) (h : PySem.W.subIn K cv (.ref e.C) = some b) : PySem.W.exmOne K cv (.ref e.C) = some b := PySem.W.exm_ref e.b e.E.hd e.t h
theorem Ex.kcls (e : Ex K mg x) (h : PySem.W.subIn K cv (.ref e.C) = some b) : PySem.W.kitCls K cv (.ref e.C) = some b := by
  have hc : (PySem.W.clsIn K e.C).isSome = true := by
    have := e.E.hd
    unfold PySem.W.hasDictIn at this
    cases q : PySem.W.clsIn K e.C with
    | none => rw [q] at this; cases this
    | some c => rfl
  have e2 : ((PySem.W.clsIn K e.C).isSome && PySem.W.typeIn K (.ref e.C) == some (.type "type")) = true := by rw [hc, e.t] <;> rfl
  show (if ((PySem.W.clsIn K e.C).isSome && PySem.W.typeIn K (.ref e.C) == some (.type "type")) = true then PySem.W.subIn K cv (.ref e.C) else none) = some b
  rw [if_pos e2]
  exact h
/-- isinstance of an error's class: by the chains of the two classes -/
theorem Ex.kit (d : Ex K mg y) (e : Ex K mg x) (s : PySem.W.subIn K (.ref d.C) (.ref d.C) = some true) (h : PySem.W.subIn K (.ref d.C) (.ref e.C) = some b) : PySem.W.kitOne K (.ref d.C) (.ref e.C) = some b := by
  unfold PySem.W.kitOne
  split
  · next q =>
    have z : (Value.ref d.C) = .ref e.C := beq_iff_eq.mp q
    rw [← z, s] at h
    cases h
    rfl
  · exact e.kcls h
theorem Ex.kitT (d : Ex K mg y) {n : String} (h : PySem.W.subIn K (.ref d.C) (.type n) = some b) (m : PySem.W.kitMeta n = true := by decide +kernel) : PySem.W.kitOne K (.ref d.C) (.type n) = some b := by
  unfold PySem.W.kitOne
  split
  · next q =>
    have z : (Value.ref d.C) = .type n := beq_iff_eq.mp q
    cases z
  · show (if PySem.W.kitMeta n = true then PySem.W.subIn K (.ref d.C) (.type n) else none) = some b
    rw [if_pos m]
    exact h
end
/-- isinstance(e, c) in a suite, the error's class told in the reading -/
def rIsX (K : PySem.W.Frag) (cls : Value) (d : Option Addr) (a : Addr) : List V → Hp → VK → Prop := fun xs H Q => ∃ (D : Addr) (c : V) (cv : Value) (b : Bool), cls = .ref D ∧ d = none ∧ ExcC K D ∧ xs = [.ref a, c] ∧ (∀ u, RelV c u → u = cv) ∧ PySem.W.kitOne K (.ref D) cv = some b ∧ Q (.bl b) H
theorem call_isX {X : Cx} {a : Addr} {cls : Value} {d : Option Addr} {oe : Obj} {pn : List (Addr × Obj)} (hz : Zc cls d oe) (hf : ∃ vs, oe.data = .fields vs) : CallR (X.suite a ((a, oe) :: pn)) (.builtin "isinstance") (rIsX X.K cls d a) := by
  intro pins s σ H xs us Q I r h
  obtain ⟨D, c, cv, b, rfl, rfl, C, e, hc, hk, q⟩ := h
  exact call_isE C hz hf pins s σ H xs us Q I r ⟨c, cv, b, e, hc, hk, q⟩
section
variable {X : Cx}
/-- [..].count(x), of flat ones -/
def rCntF (K : PySem.W.Frag) : V → List V → Hp → VK → Prop := fun x xs H Q => ∃ (a : Addr) (ys : List V) (y : V), x = .ref a ∧ xs = [y] ∧ SqL K H a ys ∧ flatV y = true ∧ ys.all flatV = true ∧ Q (.int (ys.countP (fun z => eqV z y) : Nat)) H
theorem cnt_flat {y : V} : ∀ {us : List Value} {ys : List V}, Vals ys us → ys.all flatV = true → us.countP (eqU y) = ys.countP (fun z => eqV z y)
  | _, _, .nil, _ => rfl
  | _, _, .cons r t, f => by
    rw [List.all_cons, Bool.and_eq_true] at f
    rw [List.countP_cons, List.countP_cons, cnt_flat t f.2, eqU_of r f.1]
theorem mt_countF : MtR X "list.count" (rCntF X.K) := by
  intro pins s σ H x xs v us Q I rx rxs h
  obtain ⟨a, ys, y, rfl, rfl, hs, fy, fys, q⟩ := h
  cases rx
  cases rxs with
  | cons ry rt =>
    rename_i uy ut
    cases rt
    obtain ⟨its, rv, ⟨⟨cls, dd, data, sl⟩, n, ho, hc, hdn, hd⟩, hlen⟩ := I.list hs
    simp only at hc hd
    subst hc hd
    refine call_meets PySem.F.slot_list_count ⟨_, ho, rfl⟩ PySem.F.entry_list_count (PySem.F.args_list_count_2 _ _)
      (SeqAt.list_countAt a its.toArray n dd sl uy (eqU y)) ⟨ho, fun u' hu' => mem_eqAt ry fy rv fys u' (by simpa using hu'), ?_⟩
    refine ⟨.int (ys.countP (fun z => eqV z y) : Nat), H, I.tok _, ⟨s.toks, ?_⟩, q⟩
    show Value.int ((its.toArray.toList.countP (eqU y) : Nat) : Int) s.toks = Value.int ((ys.countP (fun z => eqV z y) : Nat) : Int) s.toks
    rw [show its.toArray.toList = its from rfl, cnt_flat rv fys]
theorem mt_countFK {K : PySem.W.Frag} (h : X.K = K) : MtR X "list.count" (rCntF K) := by subst h; exact mt_countF
theorem mt_indexK {K : PySem.W.Frag} (h : X.K = K) : MtR X "list.index" (L2.rIndex K) := by subst h; exact mt_index
theorem pe_bmK {K : PySem.W.Frag} {T name id : String} {r : V → List V → Hp → VK → Prop} {o e : Expr} {es : List Expr} {to : TE} {t : TA} {apos cpos : Pos} (h : X.K = K) (pa : PlainAttrs T) (slot : Slot T name id) (hty : typeOf (.builtin id) = pure (.type "method_descriptor")) (hm : MtR X id r) (ho : PE X o to) (ha : PA X (e :: es) t)
    (hbase : attributeBase o name X.env (eval o X.env) = eval o X.env := by rfl)
    (hfew : ((backTo cpos (starEach (e :: es) X.env)).all (fun x => !x.1) && (backToKw cpos (keywordEach [] X.env)).all (fun x => x.1.isSome)
      && decide ((e :: es).length + ([] : List Keyword).length + (if ([] : List Keyword).isEmpty then 0 else 1) < 30)) = true := by rfl)
    (hline : (apos.endLine == cpos.line) = true := by rfl) (hs : starEach (e :: es) X.env = (false, eval e X.env) :: starEach es X.env := by rfl) (hplain : (backTo cpos (starEach es X.env)).any (·.1) = false := by rfl) :
    PE X (.Call (.Attribute o name apos) (e :: es) [] cpos) (tBM K T r to t) := by
  subst h
  exact pe_bm pa slot hty hm ho ha hbase hfew hline hs hplain
theorem op_eqVK {K : PySem.W.Frag} (hu : X.A.units + 64 < cLine) (h : X.K = K) : OpR X (compareOp .Eq) (rEqV K) := by subst h; exact op_eqV hu
end
end My

namespace My
open PySem PySem.Spec PyProof.Rows L2
def top (i : Nat) : Stmt := PySem.Challenge.pw_nestlaid_k31_what_are_no_tracks.main.body.getD i (.Pass ⟨0, 0, 0, 0⟩)
abbrev s_is_whole : Stmt := top 6
abbrev N_is_whole : List Str := ["thing"]
theorem sc_is_whole : FnScope N_is_whole ["thing"] (defScope s_is_whole) := ⟨rfl, rfl, rfl, by decide +kernel, rfl, by decide +kernel, by decide +kernel⟩
abbrev s_is_count : Stmt := top 8
abbrev N_is_count : List Str := ["thing"]
theorem sc_is_count : FnScope N_is_count ["thing"] (defScope s_is_count) := ⟨rfl, rfl, rfl, by decide +kernel, rfl, by decide +kernel, by decide +kernel⟩
abbrev s_is_share : Stmt := top 10
abbrev N_is_share : List Str := ["track"]
theorem sc_is_share : FnScope N_is_share ["track"] (defScope s_is_share) := ⟨rfl, rfl, rfl, by decide +kernel, rfl, by decide +kernel, by decide +kernel⟩
abbrev s_is_track : Stmt := top 11
abbrev N_is_track : List Str := ["thing"]
theorem sc_is_track : FnScope N_is_track ["thing"] (defScope s_is_track) := ⟨rfl, rfl, rfl, by decide +kernel, rfl, by decide +kernel, by decide +kernel⟩
abbrev s_are_tracks : Stmt := top 12
abbrev N_are_tracks : List Str := ["thing", "track"]
theorem sc_are_tracks : FnScope N_are_tracks ["thing"] (defScope s_are_tracks) := ⟨rfl, rfl, rfl, by decide +kernel, rfl, by decide +kernel, by decide +kernel⟩
abbrev s_is_stretch : Stmt := top 13
abbrev N_is_stretch : List Str := ["first", "many", "count"]
theorem sc_is_stretch : FnScope N_is_stretch ["first", "many", "count"] (defScope s_is_stretch) := ⟨rfl, rfl, rfl, by decide +kernel, rfl, by decide +kernel, by decide +kernel⟩
abbrev s_is_ask : Stmt := top 15
abbrev N_is_ask : List Str := ["thing", "count", "first", "many", "size"]
theorem sc_is_ask : FnScope N_is_ask ["thing", "count"] (defScope s_is_ask) := ⟨rfl, rfl, rfl, by decide +kernel, rfl, by decide +kernel, by decide +kernel⟩
abbrev s_track_sizes : Stmt := top 16
abbrev N_track_sizes : List Str := ["tracks", "asks", "gap", "one"]
theorem sc_track_sizes : FnScope N_track_sizes ["tracks", "asks", "gap"] (defScope s_track_sizes) := ⟨rfl, rfl, rfl, by decide +kernel, rfl, by decide +kernel, by decide +kernel⟩
abbrev s_told_cells : Stmt := top 17
abbrev N_told_cells : List Str := ["track"]
theorem sc_told_cells : FnScope N_told_cells ["track"] (defScope s_told_cells) := ⟨rfl, rfl, rfl, by decide +kernel, rfl, by decide +kernel, by decide +kernel⟩
abbrev s_track_parts : Stmt := top 18
abbrev N_track_parts : List Str := ["tracks", "asks", "gap", "sizes", "many", "grown", "first", "length", "size", "track", "more"]
theorem sc_track_parts : FnScope N_track_parts ["tracks", "asks", "gap"] (defScope s_track_parts) := ⟨rfl, rfl, rfl, by decide +kernel, rfl, by decide +kernel, by decide +kernel⟩
abbrev s_grow_for : Stmt := top 19
abbrev N_grow_for : List Str := ["tracks", "sizes", "grown", "ask", "first", "many", "wanted", "at", "free", "lack", "place", "part"]
theorem sc_grow_for : FnScope N_grow_for ["tracks", "sizes", "grown", "ask"] (defScope s_grow_for) := ⟨rfl, rfl, rfl, by decide +kernel, rfl, by decide +kernel, by decide +kernel⟩
abbrev s_w_cell_at : Stmt := top 21
abbrev N_w_cell_at : List Str := ["_law_script", "_law_k"]
theorem sc_w_cell_at : FnScope N_w_cell_at ["_law_script", "_law_k"] (defScope s_w_cell_at) := ⟨rfl, rfl, rfl, by decide +kernel, rfl, by decide +kernel, by decide +kernel⟩
abbrev s_w_mixed : Stmt := top 22
abbrev N_w_mixed : List Str := ["_law_cell", "_law_k", "_law_low"]
theorem sc_w_mixed : FnScope N_w_mixed ["_law_cell", "_law_k"] (defScope s_w_mixed) := ⟨rfl, rfl, rfl, by decide +kernel, rfl, by decide +kernel, by decide +kernel⟩
abbrev s_w_next : Stmt := top 23
abbrev N_w_next : List Str := ["_law_source", "_law_many", "_law_found"]
theorem sc_w_next : FnScope N_w_next ["_law_source", "_law_many"] (defScope s_w_next) := ⟨rfl, rfl, rfl, by decide +kernel, rfl, by decide +kernel, by decide +kernel⟩
abbrev s_w_word : Stmt := top 24
abbrev N_w_word : List Str := ["_law_tracks", "_law_asks", "_law_gap", "e", "_law_kinds"]
theorem sc_w_word : FnScope N_w_word ["_law_tracks", "_law_asks", "_law_gap"] (defScope s_w_word) := ⟨rfl, rfl, rfl, by decide +kernel, rfl, by decide +kernel, by decide +kernel⟩
abbrev s_w_bad_track : Stmt := top 25
abbrev N_w_bad_track : List Str := ["_law_source", "_law_some"]
theorem sc_w_bad_track : FnScope N_w_bad_track ["_law_source"] (defScope s_w_bad_track) := ⟨rfl, rfl, rfl, by decide +kernel, rfl, by decide +kernel, by decide +kernel⟩
abbrev s_w_bad_ask : Stmt := top 26
abbrev N_w_bad_ask : List Str := ["_law_source", "_law_count", "_law_some"]
theorem sc_w_bad_ask : FnScope N_w_bad_ask ["_law_source", "_law_count"] (defScope s_w_bad_ask) := ⟨rfl, rfl, rfl, by decide +kernel, rfl, by decide +kernel, by decide +kernel⟩
abbrev s_w_good : Stmt := top 27
abbrev N_w_good : List Str := ["_law_cell", "_law_source", "_law_way", "_law_whole", "_law_count", "_law_k", "_law_tracks", "_law_asks", "_law_first", "_law_gap", "_law_due", "_law_kept"]
theorem sc_w_good : FnScope N_w_good ["_law_cell"] (defScope s_w_good) := ⟨rfl, rfl, rfl, by decide +kernel, rfl, by decide +kernel, by decide +kernel⟩
abbrev s_law : Stmt := top 28
abbrev N_law : List Str := ["_law_script", "_law_cell"]
theorem sc_law : FnScope N_law ["_law_script"] (defScope s_law) := ⟨rfl, rfl, rfl, by decide +kernel, rfl, by decide +kernel, by decide +kernel⟩
structure Tx (K : PySem.W.Frag) (mg : Str → Option Value) where
  d_is_whole : Df K mg "is_whole" s_is_whole ["thing"]
  d_is_count : Df K mg "is_count" s_is_count ["thing"]
  d_is_share : Df K mg "is_share" s_is_share ["track"]
  d_is_track : Df K mg "is_track" s_is_track ["thing"]
  d_are_tracks : Df K mg "are_tracks" s_are_tracks ["thing"]
  d_is_stretch : Df K mg "is_stretch" s_is_stretch ["first", "many", "count"]
  d_is_ask : Df K mg "is_ask" s_is_ask ["thing", "count"]
  d_track_sizes : Df K mg "track_sizes" s_track_sizes ["tracks", "asks", "gap"]
  d_told_cells : Df K mg "told_cells" s_told_cells ["track"]
  d_track_parts : Df K mg "track_parts" s_track_parts ["tracks", "asks", "gap"]
  d_grow_for : Df K mg "grow_for" s_grow_for ["tracks", "sizes", "grown", "ask"]
  d_w_cell_at : Df K mg "_law_cell_at" s_w_cell_at ["_law_script", "_law_k"]
  d_w_mixed : Df K mg "_law_mixed" s_w_mixed ["_law_cell", "_law_k"]
  d_w_next : Df K mg "_law_next" s_w_next ["_law_source", "_law_many"]
  d_w_word : Df K mg "_law_word" s_w_word ["_law_tracks", "_law_asks", "_law_gap"]
  d_w_bad_track : Df K mg "_law_bad_track" s_w_bad_track ["_law_source"]
  d_w_bad_ask : Df K mg "_law_bad_ask" s_w_bad_ask ["_law_source", "_law_count"]
  d_w_good : Df K mg "_law_good" s_w_good ["_law_cell"]
  d_law : Df K mg "law" s_law ["_law_script"]
  b_ValueError : mg "ValueError" = none
  b_all : mg "all" = none
  b_bool : mg "bool" = none
  b_enumerate : mg "enumerate" = none
  b_int : mg "int" = none
  b_isinstance : mg "isinstance" = none
  b_len : mg "len" = none
  b_list : mg "list" = none
  b_max : mg "max" = none
  b_range : mg "range" = none
  b_str : mg "str" = none
  b_sum : mg "sum" = none
  b_tuple : mg "tuple" = none
  b_zip : mg "zip" = none
  e_NestError : Ex K mg "NestError"
  e_NoTrack : Ex K mg "NoTrack"
  e_NoAsk : Ex K mg "NoAsk"
  e_NoNumber : Ex K mg "NoNumber"
  r_NoTrack : PySem.W.subIn K (.ref e_NoTrack.C) (.ref e_NestError.C) = some true
  v_NoTrack : PySem.W.subIn K (.ref e_NoTrack.C) (.type "ValueError") = some true
  i_NoTrack_NoTrack : PySem.W.subIn K (.ref e_NoTrack.C) (.ref e_NoTrack.C) = some true
  i_NoTrack_NoAsk : PySem.W.subIn K (.ref e_NoTrack.C) (.ref e_NoAsk.C) = some false
  i_NoTrack_NoNumber : PySem.W.subIn K (.ref e_NoTrack.C) (.ref e_NoNumber.C) = some false
  r_NoAsk : PySem.W.subIn K (.ref e_NoAsk.C) (.ref e_NestError.C) = some true
  v_NoAsk : PySem.W.subIn K (.ref e_NoAsk.C) (.type "ValueError") = some true
  i_NoAsk_NoTrack : PySem.W.subIn K (.ref e_NoAsk.C) (.ref e_NoTrack.C) = some false
  i_NoAsk_NoAsk : PySem.W.subIn K (.ref e_NoAsk.C) (.ref e_NoAsk.C) = some true
  i_NoAsk_NoNumber : PySem.W.subIn K (.ref e_NoAsk.C) (.ref e_NoNumber.C) = some false
  r_NoNumber : PySem.W.subIn K (.ref e_NoNumber.C) (.ref e_NestError.C) = some true
  v_NoNumber : PySem.W.subIn K (.ref e_NoNumber.C) (.type "ValueError") = some true
  i_NoNumber_NoTrack : PySem.W.subIn K (.ref e_NoNumber.C) (.ref e_NoTrack.C) = some false
  i_NoNumber_NoAsk : PySem.W.subIn K (.ref e_NoNumber.C) (.ref e_NoAsk.C) = some false
  i_NoNumber_NoNumber : PySem.W.subIn K (.ref e_NoNumber.C) (.ref e_NoNumber.C) = some true
end My
/-! ### slices by plain numbers -/
namespace My
open PySem L2
theorem cutV_take (xs : List V) (j : Nat) : cutV xs none (some (j : Int)) = xs.take j := by
  unfold cutV
  rw [HT.sIx_none, HT.sIx_nat, List.drop_zero, Nat.sub_zero]
  by_cases h : j ≤ xs.length
  · rw [Nat.min_eq_left h]
  · rw [Nat.min_eq_right (by omega), List.take_of_length_le (Nat.le_refl _), List.take_of_length_le (by omega)]
theorem cutV_drop (xs : List V) (j : Nat) : cutV xs (some (j : Int)) none = xs.drop j := by
  unfold cutV
  rw [HT.sIx_none, HT.sIx_nat]
  by_cases h : j ≤ xs.length
  · rw [Nat.min_eq_left h, List.take_of_length_le (by rw [List.length_drop]; omega)]
  · rw [Nat.min_eq_right (by omega), List.drop_of_length_le (Nat.le_refl _), List.drop_of_length_le (by omega), List.take_nil]
theorem cutV_mid (xs : List V) (i j : Nat) (h : i ≤ j) : cutV xs (some (i : Int)) (some (j : Int)) = (xs.take j).drop i := by
  unfold cutV
  rw [HT.sIx_nat, HT.sIx_nat]
  by_cases h1 : i ≤ xs.length
  · by_cases h2 : j ≤ xs.length
    · rw [Nat.min_eq_left h1, Nat.min_eq_left h2, List.drop_take]
    · rw [Nat.min_eq_left h1, Nat.min_eq_right (by omega), List.take_of_length_le (by rw [List.length_drop]; omega), List.take_of_length_le (by omega)]
  · rw [Nat.min_eq_right (show xs.length ≤ i by omega), List.drop_of_length_le (Nat.le_refl _), List.take_nil, List.drop_of_length_le (by rw [List.length_take]; omega)]
end My

/-! ### totals dealt by caps and weights: plain mathematics -/
namespace My
open PySem L2
/-- the sum of f over some places -/
def S (f : Nat → Int) (R : List Nat) : Int := (R.map f).sum
theorem S_nil (f : Nat → Int) : S f [] = 0 := rfl
theorem S_cons (f : Nat → Int) (i : Nat) (R : List Nat) : S f (i :: R) = f i + S f R := by unfold S; rw [List.map_cons, List.sum_cons]
theorem S_append (f : Nat → Int) (R T : List Nat) : S f (R ++ T) = S f R + S f T := by unfold S; rw [List.map_append, List.sum_append]
theorem S_nonneg {f : Nat → Int} : ∀ {R : List Nat}, (∀ i ∈ R, 0 ≤ f i) → 0 ≤ S f R
  | [], _ => Int.le_refl 0
  | i :: R, h => by
    rw [S_cons]
    have h1 := h i (List.mem_cons_self ..)
    have h2 := S_nonneg (R := R) fun j hj => h j (List.mem_cons_of_mem _ hj)
    omega
theorem S_le {f g : Nat → Int} : ∀ {R : List Nat}, (∀ i ∈ R, f i ≤ g i) → S f R ≤ S g R
  | [], _ => Int.le_refl 0
  | i :: R, h => by
    rw [S_cons, S_cons]
    have h1 := h i (List.mem_cons_self ..)
    have h2 := S_le (R := R) fun j hj => h j (List.mem_cons_of_mem _ hj)
    omega
theorem S_lt {f g : Nat → Int} : ∀ {R : List Nat}, (∀ i ∈ R, f i < g i) → R ≠ [] → S f R < S g R
  | [], _, h => absurd rfl h
  | i :: R, h, _ => by
    rw [S_cons, S_cons]
    have h1 := h i (List.mem_cons_self ..)
    have h2 := S_le (R := R) fun j hj => Int.le_of_lt (h j (List.mem_cons_of_mem _ hj))
    omega
theorem S_congr {f g : Nat → Int} : ∀ {R : List Nat}, (∀ i ∈ R, f i = g i) → S f R = S g R
  | [], _ => rfl
  | i :: R, h => by
    rw [S_cons, S_cons, h i (List.mem_cons_self ..), S_congr (R := R) fun j hj => h j (List.mem_cons_of_mem _ hj)]
theorem S_mul (c : Int) (f : Nat → Int) : ∀ R : List Nat, S (fun i => c * f i) R = c * S f R
  | [] => (Int.mul_zero c).symm
  | i :: R => by rw [S_cons, S_cons, S_mul c f R, Int.mul_add]
theorem S_mul_r (c : Int) (f : Nat → Int) : ∀ R : List Nat, S (fun i => f i * c) R = S f R * c
  | [] => (Int.zero_mul c).symm
  | i :: R => by rw [S_cons, S_cons, S_mul_r c f R, Int.add_mul]
theorem S_split (f : Nat → Int) (p : Nat → Bool) : ∀ R : List Nat, S f R = S f (R.filter p) + S f (R.filter fun i => !p i)
  | [] => rfl
  | i :: R => by
    rw [S_cons, S_split f p R, List.filter_cons, List.filter_cons]
    cases h : p i with
    | true => simp only [Bool.not_true, if_true, Bool.false_eq_true, if_false]; rw [S_cons]; omega
    | false => simp only [Bool.not_false, if_true, Bool.false_eq_true, if_false]; rw [S_cons]; omega
theorem S_bound {f : Nat → Int} {c : Int} : ∀ {R : List Nat}, (∀ i ∈ R, f i ≤ c) → S f R ≤ c * R.length
  | [], _ => by simp [S_nil]
  | i :: R, h => by
    rw [S_cons, List.length_cons]
    have h1 := h i (List.mem_cons_self ..)
    have h2 := S_bound (R := R) fun j hj => h j (List.mem_cons_of_mem _ hj)
    have e : c * ((R.length + 1 : Nat) : Int) = c * R.length + c := by rw [Int.natCast_add, Int.mul_add]; simp
    omega
abbrev natsV (ch : List Nat) : List V := ch.map fun i : Nat => V.int (i : Int)
def wAt (ws : List Int) (i : Nat) : Int := ws.getD i 0
/-! #### the level -/
/-- what the removed ones keep: cap ≤ level times weight, while the level T / W only rises -/
theorem rise {T W C V : Int} (hW : 0 < W) (hC : C * W ≤ T * V) : T * (W - V) ≤ (T - C) * W := by
  rw [Int.mul_sub, Int.sub_mul]; omega
theorem keep_cap {c w T W T' W' : Int} (hW : 0 < W) (hw : 0 ≤ w) (hW' : 0 ≤ W') (h : c * W ≤ T * w) (hr : T * W' ≤ T' * W) : c * W' ≤ T' * w := by
  have h1 : c * W * W' ≤ T * w * W' := Int.mul_le_mul_of_nonneg_right h hW'
  have h2 : T * W' * w ≤ T' * W * w := Int.mul_le_mul_of_nonneg_right hr hw
  have e1 : c * W * W' = c * W' * W := by rw [Int.mul_assoc, Int.mul_comm W W', ← Int.mul_assoc]
  have e2 : T * w * W' = T * W' * w := by rw [Int.mul_assoc, Int.mul_comm w W', ← Int.mul_assoc]
  have e3 : T' * W * w = T' * w * W := by rw [Int.mul_assoc, Int.mul_comm W w, ← Int.mul_assoc]
  exact Int.le_of_mul_le_mul_right (by rw [← e1, ← e3]; omega) hW
/-- behind the rest: what is weighed so far -/
def pre (w : Nat → Int) (p : Nat → Bool) : Nat → Int
  | 0 => 0
  | i + 1 => pre w p i + if p i then w i else 0
/-- what one gets by running sums -/
def part (t b beh w : Int) : Int := t * (beh + w) / b - t * beh / b
/-- the pairs that running tells -/
def runD (t b : Int) (w : Nat → Int) : List Nat → Int → List (Nat × Int)
  | [], _ => []
  | i :: r, beh => (i, part t b beh (w i)) :: runD t b w r (beh + w i)
theorem runD_append (t b : Int) (w : Nat → Int) (i : Nat) : ∀ (l : List Nat) (beh : Int), runD t b w (l ++ [i]) beh = runD t b w l beh ++ [(i, part t b (beh + S w l) (w i))]
  | [], beh => by simp [runD, S_nil]
  | j :: l, beh => by
    rw [List.cons_append]
    simp only [runD]
    rw [runD_append t b w i l (beh + w j), S_cons, Int.add_assoc, List.cons_append]
theorem runD_fst (t b : Int) (w : Nat → Int) : ∀ (l : List Nat) (beh : Int), (runD t b w l beh).map (·.1) = l
  | [], _ => rfl
  | i :: l, beh => by simp only [runD, List.map_cons]; rw [runD_fst t b w l]
theorem pre_eq (w : Nat → Int) (p : Nat → Bool) : ∀ n, pre w p n = S w ((List.range n).filter p)
  | 0 => rfl
  | n + 1 => by
    rw [List.range_succ, List.filter_append, S_append, ← pre_eq w p n]
    simp only [pre, List.filter_cons, List.filter_nil]
    cases p n <;> simp [S_cons, S_nil]
theorem runD_range (t b : Int) (w : Nat → Int) (p : Nat → Bool) : ∀ n, ∀ q ∈ runD t b w ((List.range n).filter p) 0, p q.1 = true ∧ q.1 < n ∧ q.2 = part t b (pre w p q.1) (w q.1)
  | 0, q, h => by simp [runD] at h
  | n + 1, q, h => by
    rw [List.range_succ, List.filter_append] at h
    cases hp : p n with
    | false =>
      rw [List.filter_cons, hp] at h
      simp only [Bool.false_eq_true, if_false, List.filter_nil, List.append_nil] at h
      obtain ⟨h1, h2, h3⟩ := runD_range t b w p n q h
      exact ⟨h1, by omega, h3⟩
    | true =>
      rw [List.filter_cons, hp] at h
      simp only [if_true, List.filter_nil] at h
      rw [runD_append] at h
      rcases List.mem_append.mp h with h | h
      · obtain ⟨h1, h2, h3⟩ := runD_range t b w p n q h
        exact ⟨h1, by omega, h3⟩
      · simp only [List.mem_singleton] at h
        subst h
        exact ⟨hp, by simp, by simp [pre_eq]⟩
/-- found, set by pairs -/
def putAll (f : List Int) (ps : List (Nat × Int)) : List Int := ps.foldl (fun f q => f.set q.1 q.2) f
theorem putAll_len : ∀ (ps : List (Nat × Int)) (f : List Int), (putAll f ps).length = f.length
  | [], _ => rfl
  | q :: ps, f => by
    show (putAll (f.set q.1 q.2) ps).length = _
    rw [putAll_len ps, List.length_set]
theorem putAll_out {i : Nat} : ∀ (ps : List (Nat × Int)) (f : List Int), i ∉ ps.map (·.1) → (putAll f ps)[i]? = f[i]?
  | [], _, _ => rfl
  | q :: ps, f, h => by
    show (putAll (f.set q.1 q.2) ps)[i]? = _
    rw [List.map_cons, List.mem_cons, not_or] at h
    rw [putAll_out ps _ h.2, List.getElem?_set_ne (fun e => h.1 e.symm)]
theorem putAll_in {g : Nat → Int} {i : Nat} : ∀ (ps : List (Nat × Int)) (f : List Int), (∀ q ∈ ps, q.2 = g q.1) → i ∈ ps.map (·.1) → i < f.length → (putAll f ps)[i]? = some (g i)
  | [], _, _, h, _ => by simp at h
  | q :: ps, f, hg, h, hl => by
    show (putAll (f.set q.1 q.2) ps)[i]? = _
    by_cases hm : i ∈ ps.map (·.1)
    · exact putAll_in ps _ (fun r hr => hg r (List.mem_cons_of_mem _ hr)) hm (by rw [List.length_set]; exact hl)
    · rw [putAll_out ps _ hm]
      rw [List.map_cons, List.mem_cons] at h
      rcases h with e | h
      · subst e
        rw [List.getElem?_set_self hl, hg q (List.mem_cons_self ..)]
      · exact absurd h hm
/-! #### the spec, and the loop -/
def capN (cap : Nat → Option Int) (i : Nat) : Int := (cap i).getD 0
/-- who has weight -/
def wtd (n : Nat) (w : Nat → Int) : List Nat := (List.range n).filter fun i => decide (0 < w i)
/-- the cap is no more than level times weight -/
def heldB (t b : Int) (w : Nat → Int) (cap : Nat → Option Int) (i : Nat) : Bool := match cap i with
  | some c => decide (c * b ≤ t * w i)
  | none => false
/-- who is dealt to by the level -/
def restB (t b : Int) (w : Nat → Int) (cap : Nat → Option Int) (i : Nat) : Bool := decide (0 < w i) && !heldB t b w cap i
def less (c : Option Int) (b x : Int) : Int := match c with
  | some c => min (c * b) x
  | none => x
structure Dealt (n : Nat) (w : Nat → Int) (cap : Nat → Option Int) (total : Int) (lv : Option (Int × Int)) (fs : List Int) : Prop where
  len : fs.length = n
  zero : ∀ i, i < n → w i ≤ 0 → fs[i]? = some 0
  non : lv = none → (∀ i, i < n → 0 < w i → ∃ c, cap i = some c ∧ fs[i]? = some c) ∧ S (capN cap) (wtd n w) ≤ total
  lev : ∀ t b, lv = some (t, b) → 0 ≤ t ∧ 0 < b ∧ Int.gcd t b = 1 ∧ ¬ ((∀ i, i < n → 0 < w i → (cap i).isSome = true) ∧ S (capN cap) (wtd n w) ≤ total) ∧
    S (fun i => less (cap i) b (t * w i)) (wtd n w) = total * b ∧
    ∀ i, i < n → 0 < w i → fs[i]? = some (if heldB t b w cap i then capN cap i else part t b (pre w (restB t b w cap) i) (w i))
/-- between two turns: who is left (p), what is left (T) -/
structure DI (n : Nat) (w : Nat → Int) (cap : Nat → Option Int) (total : Int) (p : Nat → Bool) (T : Int) (f : List Int) : Prop where
  len : f.length = n
  pw : ∀ i, i < n → p i = true → 0 < w i
  tn : 0 ≤ T
  out : ∀ i, i < n → 0 < w i → p i = false → ∃ c, cap i = some c ∧ f[i]? = some c ∧ c * S w ((List.range n).filter p) ≤ T * w i
  yet : ∀ i, i < n → (p i = true ∨ w i ≤ 0) → f[i]? = some 0
  sum : T + S (capN cap) ((List.range n).filter fun i => decide (0 < w i) && !p i) = total
section
variable {n : Nat} {w : Nat → Int} {cap : Nat → Option Int} {total T : Int} {p : Nat → Bool} {f : List Int}
theorem filter_congr' {q r : Nat → Bool} {l : List Nat} (h : ∀ i ∈ l, q i = r i) : l.filter q = l.filter r := List.filter_congr h
theorem DI.start (h0 : 0 ≤ total) : DI n w cap total (fun i => decide (0 < w i)) total (List.replicate n 0) := by
  refine ⟨List.length_replicate, fun i _ h => of_decide_eq_true h, h0, fun i _ h1 h2 => absurd h1 (of_decide_eq_false h2), fun i hi _ => by rw [List.getElem?_replicate, if_pos hi], ?_⟩
  have e : ((List.range n).filter fun i => decide (0 < w i) && !decide (0 < w i)) = [] := by
    rw [List.filter_eq_nil_iff]
    intro i _
    cases decide (0 < w i) <;> simp
  rw [e, S_nil]; omega
/-- nobody is left -/
theorem DI.fin0 (d : DI n w cap total p T f) (he : (List.range n).filter p = []) : Dealt n w cap total none f := by
  have hp : ∀ i, i < n → p i = false := fun i hi => by
    have := List.filter_eq_nil_iff.mp he i (List.mem_range.mpr hi)
    simpa using this
  refine ⟨d.len, fun i hi h => d.yet i hi (.inr h), fun _ => ⟨fun i hi h => ?_, ?_⟩, fun t b h => by cases h⟩
  · obtain ⟨c, h1, h2, _⟩ := d.out i hi h (hp i hi)
    exact ⟨c, h1, h2⟩
  · have e : wtd n w = ((List.range n).filter fun i => decide (0 < w i) && !p i) := filter_congr' fun i hi => by
      rw [hp i (List.mem_range.mp hi)]; simp
    rw [e]
    have := d.sum
    have := d.tn
    omega
/-- who has no more than level times weight as a cap -/
def fullB (T W : Int) (w : Nat → Int) (cap : Nat → Option Int) (i : Nat) : Bool := heldB T W w cap i
theorem S_pos {R : List Nat} (h : ∀ i ∈ R, 0 < w i) (hne : R ≠ []) : 0 < S w R := by
  have := S_lt (f := fun _ => 0) (g := w) h hne
  have e : S (fun _ => 0) R = 0 := by
    have : ∀ R : List Nat, S (fun _ => 0) R = 0 := fun R => by
      induction R with
      | nil => rfl
      | cons i R ih => rw [S_cons, ih]; rfl
    exact this R
  omega
theorem heldB_some {t b : Int} {i : Nat} (h : heldB t b w cap i = true) : ∃ c, cap i = some c ∧ c * b ≤ t * w i := by
  unfold heldB at h
  cases e : cap i with
  | none => rw [e] at h; cases h
  | some c => rw [e] at h; exact ⟨c, rfl, of_decide_eq_true h⟩
theorem heldB_iff {t b c : Int} {i : Nat} (e : cap i = some c) : heldB t b w cap i = decide (c * b ≤ t * w i) := by
  unfold heldB
  rw [e]
theorem filter_and (q r : Nat → Bool) (l : List Nat) : (l.filter q).filter r = l.filter fun i => q i && r i := by
  rw [List.filter_filter]
  exact List.filter_congr fun i _ => by rw [Bool.and_comm]
/-- one turn -/
theorem DI.turn (d : DI n w cap total p T f) (W : Int) (hW : W = S w ((List.range n).filter p)) (hne : (List.range n).filter p ≠ []) (full : List Nat) (hfull : full = ((List.range n).filter p).filter (heldB T W w cap)) :
    DI n w cap total (fun i => p i && !heldB T W w cap i) (T - S (capN cap) full) (putAll f (full.map fun i => (i, capN cap i))) := by
  have hpos : ∀ i ∈ (List.range n).filter p, 0 < w i := fun i hi => by
    obtain ⟨h1, h2⟩ := List.mem_filter.mp hi
    exact d.pw i (List.mem_range.mp h1) h2
  have W0 : 0 < W := by rw [hW]; exact S_pos hpos hne
  have mfull : ∀ i, i ∈ full ↔ (i < n ∧ p i = true) ∧ heldB T W w cap i = true := fun i => by
    rw [hfull, List.mem_filter, List.mem_filter, List.mem_range]
  -- C * W ≤ T * V
  have hC : S (capN cap) full * W ≤ T * S w full := by
    rw [← S_mul_r, ← S_mul]
    refine S_le fun i hi => ?_
    obtain ⟨c, e, h⟩ := heldB_some ((mfull i).mp hi).2
    show (cap i).getD 0 * W ≤ T * w i
    rw [e]; exact h
  have hsp : W = S w full + S w ((List.range n).filter fun i => p i && !heldB T W w cap i) := by
    have e := S_split w (heldB T W w cap) ((List.range n).filter p)
    rw [← hfull, filter_and, ← hW] at e
    exact e
  have V0 : S w full ≤ W := by
    have : 0 ≤ S w ((List.range n).filter fun i => p i && !heldB T W w cap i) := S_nonneg fun i hi => by
      obtain ⟨h1, h2⟩ := List.mem_filter.mp hi
      have := d.pw i (List.mem_range.mp h1) (Bool.and_eq_true_iff.mp h2).1
      omega
    omega
  have T0 : 0 ≤ T - S (capN cap) full := by
    have h1 : T * S w full ≤ T * W := Int.mul_le_mul_of_nonneg_left V0 d.tn
    have h2 : S (capN cap) full * W ≤ T * W := Int.le_trans hC h1
    have := Int.le_of_mul_le_mul_right h2 W0
    omega
  have hr := rise W0 hC
  have eW' : W - S w full = S w ((List.range n).filter fun i => p i && !heldB T W w cap i) := by omega
  rw [eW'] at hr
  have W'0 : 0 ≤ S w ((List.range n).filter fun i => p i && !heldB T W w cap i) := by omega
  have fst : (full.map fun i => (i, capN cap i)).map (·.1) = full := by rw [List.map_map]; exact List.map_id'' (fun _ => rfl) _
  refine ⟨by rw [putAll_len]; exact d.len, fun i hi h => d.pw i hi (Bool.and_eq_true_iff.mp h).1, T0, fun i hi hw hp' => ?_, fun i hi h => ?_, ?_⟩
  · cases hp : p i with
    | false =>
      obtain ⟨c, h1, h2, h3⟩ := d.out i hi hw hp
      refine ⟨c, h1, ?_, ?_⟩
      · rw [putAll_out _ _ (by rw [fst]; intro hm; have := ((mfull i).mp hm).1.2; rw [hp] at this; cases this)]
        exact h2
      · rw [← hW] at h3
        exact keep_cap W0 (Int.le_of_lt hw) W'0 h3 hr
    | true =>
      have hh : heldB T W w cap i = true := by rw [hp] at hp'; simpa using hp'
      obtain ⟨c, e, h⟩ := heldB_some hh
      refine ⟨c, e, ?_, keep_cap W0 (Int.le_of_lt hw) W'0 h hr⟩
      have := putAll_in (g := capN cap) (i := i) (full.map fun i => (i, capN cap i)) f (fun q hq => by
        obtain ⟨j, _, e⟩ := List.mem_map.mp hq
        rw [← e]) (by rw [fst]; exact (mfull i).mpr ⟨⟨hi, hp⟩, hh⟩) (by rw [d.len]; exact hi)
      rw [this]
      show some ((cap i).getD 0) = some c
      rw [e]; rfl
  · have hn : i ∉ full := fun hm => by
      obtain ⟨⟨_, h1⟩, h2⟩ := (mfull i).mp hm
      rcases h with h | h
      · rw [h1, h2] at h; cases h
      · have := d.pw i hi h1; omega
    rw [putAll_out _ _ (by rw [fst]; exact hn)]
    refine d.yet i hi ?_
    rcases h with h | h
    · exact .inl (Bool.and_eq_true_iff.mp h).1
    · exact .inr h
  · have e1 : S (capN cap) ((List.range n).filter fun i => decide (0 < w i) && !(p i && !heldB T W w cap i)) = S (capN cap) full + S (capN cap) ((List.range n).filter fun i => decide (0 < w i) && !p i) := by
      have e := S_split (capN cap) p ((List.range n).filter fun i => decide (0 < w i) && !(p i && !heldB T W w cap i))
      rw [filter_and, filter_and] at e
      rw [e]
      congr 1
      · congr 1
        rw [hfull, filter_and]
        refine filter_congr' fun i hi => ?_
        have := d.pw i (List.mem_range.mp hi)
        cases hp : p i with
        | false => simp
        | true =>
          rw [decide_eq_true (this hp)]
          cases heldB T W w cap i <;> rfl
      · congr 1
        refine filter_congr' fun i _ => ?_
        cases p i <;> simp
    rw [e1]
    have := d.sum
    omega
/-- nobody is held any more: the level -/
theorem DI.fin1 (d : DI n w cap total p T f) (W : Int) (hW : W = S w ((List.range n).filter p)) (hne : (List.range n).filter p ≠ []) (hfull : ((List.range n).filter p).filter (heldB T W w cap) = []) {t b g : Int}
    (eT : T = t * g) (eW : W = b * g) (hg : 0 < g) (hgcd : Int.gcd t b = 1) :
    Dealt n w cap total (some (t, b)) (putAll f (runD t b w ((List.range n).filter p) 0)) := by
  have hpos : ∀ i ∈ (List.range n).filter p, 0 < w i := fun i hi => by
    obtain ⟨h1, h2⟩ := List.mem_filter.mp hi
    exact d.pw i (List.mem_range.mp h1) h2
  have W0 : 0 < W := by rw [hW]; exact S_pos hpos hne
  have b0 : 0 < b := Int.pos_of_mul_pos_right (by rw [Int.mul_comm] at eW; rw [← eW]; exact W0) hg
  have t0 : 0 ≤ t := by
    by_cases h : 0 ≤ t
    · exact h
    · have : t * g < 0 := Int.mul_neg_of_neg_of_pos (by omega) hg
      have := d.tn
      omega
  have cmp : ∀ c i, (c * W ≤ T * w i ↔ c * b ≤ t * w i) := fun c i => by
    have e1 : c * W = c * b * g := by rw [eW, Int.mul_assoc]
    have e2 : T * w i = t * w i * g := by rw [eT, Int.mul_assoc, Int.mul_comm g, ← Int.mul_assoc]
    rw [e1, e2]
    exact ⟨fun h => Int.le_of_mul_le_mul_right h hg, fun h => Int.mul_le_mul_of_nonneg_right h (Int.le_of_lt hg)⟩
  have hheld : ∀ i, heldB t b w cap i = heldB T W w cap i := fun i => by
    unfold heldB
    cases cap i with
    | none => rfl
    | some c => exact decide_eq_decide.mpr (cmp c i).symm
  have hrest : ∀ i, i < n → restB t b w cap i = p i := fun i hi => by
    unfold restB
    rw [hheld]
    cases hp : p i with
    | true =>
      have hw := d.pw i hi hp
      have hm : i ∈ (List.range n).filter p := List.mem_filter.mpr ⟨List.mem_range.mpr hi, hp⟩
      have hh := List.filter_eq_nil_iff.mp hfull i hm
      rw [decide_eq_true hw]
      simpa using hh
    | false =>
      by_cases hw : 0 < w i
      · obtain ⟨c, e, _, h⟩ := d.out i hi hw hp
        rw [← hW] at h
        rw [heldB_iff e, decide_eq_true h]
        simp
      · rw [decide_eq_false hw]; rfl
  have epre : ∀ i, i ≤ n → pre w (restB t b w cap) i = pre w p i := by
    intro i hi
    rw [pre_eq, pre_eq]
    congr 1
    exact filter_congr' fun j hj => hrest j (by have := List.mem_range.mp hj; omega)
  have hrun := runD_range t b w p n
  have fst : (runD t b w ((List.range n).filter p) 0).map (·.1) = (List.range n).filter p := runD_fst ..
  have hin : ∀ i, i < n → p i = true → (putAll f (runD t b w ((List.range n).filter p) 0))[i]? = some (part t b (pre w p i) (w i)) := fun i hi hp =>
    putAll_in (g := fun i => part t b (pre w p i) (w i)) _ f (fun q hq => (hrun q hq).2.2) (by rw [fst]; exact List.mem_filter.mpr ⟨List.mem_range.mpr hi, hp⟩) (by rw [d.len]; exact hi)
  have hout : ∀ i, i < n → p i = false → (putAll f (runD t b w ((List.range n).filter p) 0))[i]? = f[i]? := fun i hi hp =>
    putAll_out _ f (by rw [fst]; intro hm; have := (List.mem_filter.mp hm).2; rw [hp] at this; cases this)
  -- those who have weight: the removed and the rest
  have hsplit : ∀ g : Nat → Int, S g (wtd n w) = S g ((List.range n).filter p) + S g ((List.range n).filter fun i => decide (0 < w i) && !p i) := fun g => by
    have e := S_split g p (wtd n w)
    unfold wtd at e
    rw [filter_and, filter_and] at e
    unfold wtd
    rw [e]
    congr 1
    congr 1
    refine filter_congr' fun i hi => ?_
    cases hp : p i with
    | false => simp
    | true => rw [decide_eq_true (d.pw i (List.mem_range.mp hi) hp)]; rfl
  have outs : ∀ i ∈ (List.range n).filter fun i => decide (0 < w i) && !p i, ∃ c, cap i = some c ∧ c * b ≤ t * w i := fun i hi => by
    obtain ⟨h1, h2⟩ := List.mem_filter.mp hi
    rw [Bool.and_eq_true] at h2
    obtain ⟨c, e, _, h⟩ := d.out i (List.mem_range.mp h1) (of_decide_eq_true h2.1) (by simpa using h2.2)
    rw [← hW] at h
    exact ⟨c, e, (cmp c i).mp h⟩
  have ins : ∀ i ∈ (List.range n).filter p, ∀ c, cap i = some c → t * w i < c * b := fun i hi c e => by
    have hh := List.filter_eq_nil_iff.mp hfull i hi
    rw [heldB_iff e] at hh
    have h3 : ¬ c * b ≤ t * w i := fun z => hh (decide_eq_true ((cmp c i).mpr z))
    omega
  refine ⟨by rw [putAll_len]; exact d.len, fun i hi h => ?_, (fun h => by cases h), fun t' b' h => ?_⟩
  · have hp : p i = false := by
      cases hp : p i with
      | false => rfl
      | true => have := d.pw i hi hp; omega
    rw [hout i hi hp]
    exact d.yet i hi (.inr h)
  · cases h
    refine ⟨t0, b0, hgcd, fun ⟨h1, h2⟩ => ?_, ?_, fun i hi hw => ?_⟩
    · -- all have caps, and these come to more than the total
      have hlt : S (fun i => t * w i) ((List.range n).filter p) < S (fun i => capN cap i * b) ((List.range n).filter p) := S_lt (fun i hi => by
        obtain ⟨ha, hb⟩ := List.mem_filter.mp hi
        have hs := h1 i (List.mem_range.mp ha) (hpos i hi)
        obtain ⟨c, e⟩ := Option.isSome_iff_exists.mp hs
        have := ins i hi c e
        show t * w i < (cap i).getD 0 * b
        rw [e]; exact this) hne
      rw [S_mul, S_mul_r, ← hW] at hlt
      have e1 : t * W = T * b := by rw [eT, eW, Int.mul_comm b g, ← Int.mul_assoc]
      rw [e1] at hlt
      have hlt2 := Int.lt_of_mul_lt_mul_right hlt (Int.le_of_lt b0)
      rw [hsplit] at h2
      have := d.sum
      omega
    · rw [hsplit]
      have e1 : S (fun i => less (cap i) b (t * w i)) ((List.range n).filter p) = t * W := by
        rw [hW, ← S_mul]
        refine S_congr fun i hi => ?_
        cases e : cap i with
        | none => simp [less]
        | some c =>
          have := ins i hi c e
          simp only [less]
          omega
      have e2 : S (fun i => less (cap i) b (t * w i)) ((List.range n).filter fun i => decide (0 < w i) && !p i) = S (capN cap) ((List.range n).filter fun i => decide (0 < w i) && !p i) * b := by
        rw [← S_mul_r]
        refine S_congr fun i hi => ?_
        obtain ⟨c, e, h⟩ := outs i hi
        unfold capN
        rw [e]
        simp only [less, Option.getD_some]
        omega
      rw [e1, e2]
      have e3 : t * W = T * b := by rw [eT, eW, Int.mul_comm b g, ← Int.mul_assoc]
      rw [e3, ← Int.add_mul, d.sum]
    · cases hp : p i with
      | true =>
        have hr := hrest i hi
        rw [hp] at hr
        unfold restB at hr
        rw [Bool.and_eq_true] at hr
        have hh : heldB t b w cap i = false := by simpa using hr.2
        rw [hin i hi hp, hh, epre i (Nat.le_of_lt hi)]
        rfl
      | false =>
        obtain ⟨c, e, h1, h2⟩ := d.out i hi hw hp
        rw [← hW] at h2
        rw [hout i hi hp, h1, heldB_iff e, decide_eq_true ((cmp c i).mp h2)]
        unfold capN
        rw [e]; rfl
end
/-! #### lists of places, levels as values -/
theorem lcYs_range (n : Nat) (p : Nat → Bool) (ys : Nat → Option V) (h : ∀ i, i < n → ys i = if p i = true then some (.int (i : Int)) else none) : lcYs n ys = natsV ((List.range n).filter p) := by
  have key : ∀ m, m ≤ n → lcYs m ys = natsV ((List.range m).filter p) := by
    intro m
    induction m with
    | zero => intro _; rfl
    | succ m ih =>
      intro hm
      rw [lcYs_succ, ih (by omega), h m (by omega), List.range_succ, List.filter_append]
      unfold natsV
      rw [List.map_append]
      congr 1
      cases hp : p m <;> simp [hp]
  exact key n (Nat.le_refl _)
theorem rep_zero (n : Nat) : (List.replicate n [V.int 0]).flatten = (List.replicate n (0 : Int)).map V.int := by
  induction n with
  | zero => rfl
  | succ n ih => rw [List.replicate_succ, List.flatten_cons, ih, List.replicate_succ, List.map_cons]; rfl
theorem inV_nats (i : Nat) : ∀ l : List Nat, inV (.int (i : Int)) (natsV l) = decide (i ∈ l)
  | [] => by simp [inV]
  | j :: l => by
    have ih := inV_nats i l
    unfold inV at ih ⊢
    simp only [natsV, List.map_cons, List.any_cons] at ih ⊢
    rw [ih]
    have e : eqV (V.int (j : Int)) (V.int (i : Int)) = decide (j = i) := by
      by_cases hj : j = i
      · subst hj; simp [eqV]
      · have : ¬ ((j : Int) = (i : Int)) := by omega
        simp [eqV, hj, this]
    rw [e]
    by_cases hj : j = i
    · subst hj; simp
    · have : ¬ i = j := fun z => hj z.symm
      simp [hj, this]
theorem flat_nats (l : List Nat) : (natsV l).all flatV = true := by
  rw [List.all_eq_true]
  intro x hx
  obtain ⟨i, _, rfl⟩ := List.mem_map.mp hx
  rfl
def natI (l : List Nat) : List Int := l.map fun i : Nat => (i : Int)
theorem natsV_eq (l : List Nat) : (natI l).map V.int = natsV l := by unfold natI; rw [List.map_map]; rfl
theorem natI_nil {l : List Nat} : natI l = [] ↔ l = [] := by unfold natI; exact List.map_eq_nil_iff
theorem nat_of_map {l : List Nat} {i : Nat} {y : V} (h : (natsV l)[i]? = some y) : ∃ c, l[i]? = some c ∧ y = V.int (c : Int) := by
  rw [List.getElem?_map] at h
  cases e : l[i]? with
  | none => rw [e] at h; cases h
  | some c => rw [e] at h; exact ⟨c, rfl, (Option.some.inj h).symm⟩
theorem int_at {ws : List Int} {c : Nat} (h : c < ws.length) : (ws.map V.int)[c]? = some (.int (wAt ws c)) := by
  rw [List.getElem?_map, List.getElem?_eq_getElem h]
  unfold wAt
  rw [List.getD_eq_getElem?_getD, List.getElem?_eq_getElem h]; rfl
def cAt (cs : List (Option Int)) (i : Nat) : Option Int := cs.getD i none
theorem opt_at {cs : List (Option Int)} {c : Nat} (h : c < cs.length) : (cs.map optI)[c]? = some (optI (cAt cs c)) := by
  rw [List.getElem?_map, List.getElem?_eq_getElem h]
  unfold cAt
  rw [List.getD_eq_getElem?_getD, List.getElem?_eq_getElem h]; rfl
theorem wAt_mem {ws : List Int} {i : Nat} (h : i < ws.length) : wAt ws i ∈ ws := by
  unfold wAt
  rw [List.getD_eq_getElem?_getD, List.getElem?_eq_getElem h]
  exact List.getElem_mem h
theorem cAt_mem {cs : List (Option Int)} {i : Nat} {z : Int} (h : cAt cs i = some z) : some z ∈ cs := by
  unfold cAt at h
  rw [List.getD_eq_getElem?_getD] at h
  cases e : cs[i]? with
  | none => rw [e] at h; cases h
  | some c => rw [e] at h; have : c = some z := h; rw [← this]; exact List.mem_of_getElem? e
/-- a level as it stands -/
def LvAt (H : Hp) (lv : Option (Int × Int)) (v : V) : Prop := match lv with
  | none => v = .non
  | some (t, b) => ∃ r, v = .ref r ∧ H r = some (.tup [.int t, .int b])
theorem filter_not_mem {p q : Nat → Bool} {l : List Nat} : ((l.filter p).filter fun i => !decide (i ∈ (l.filter p).filter q)) = l.filter fun i => p i && !q i := by
  rw [filter_and]
  refine List.filter_congr fun i hi => ?_
  cases hp : p i with
  | false => rfl
  | true =>
    have : decide (i ∈ (l.filter p).filter q) = q i := by
      cases hq : q i with
      | true => exact decide_eq_true (List.mem_filter.mpr ⟨List.mem_filter.mpr ⟨hi, hp⟩, hq⟩)
      | false => exact decide_eq_false fun hm => by have := (List.mem_filter.mp hm).2; rw [hq] at this; cases this
    rw [this]
theorem filter_lt {α : Type} {q : α → Bool} {l : List α} {j : α} (h : j ∈ l) (hq : q j = false) : (l.filter q).length < l.length := by
  have h1 := List.length_filter_le q l
  have h2 : (l.filter q).length ≠ l.length := fun e => by
    have := (List.length_filter_eq_length_iff.mp e) j h
    rw [hq] at this; cases this
  omega
theorem putAll_take {ps : List (Nat × Int)} {i : Nat} {q : Nat × Int} (h : ps[i]? = some q) (f : List Int) : putAll f (ps.take (i + 1)) = (putAll f (ps.take i)).set q.1 q.2 := by
  unfold putAll
  rw [List.take_add_one, h]
  show List.foldl _ f (ps.take i ++ [q]) = _
  rw [List.foldl_append]
  rfl
theorem ixN_nat {n i : Nat} (h : i < n) : ixN n (i : Int) = some i := by
  unfold ixN
  rw [if_pos (by omega), if_pos (by omega)]
  simp
theorem map_set {α β : Type} (f : α → β) (l : List α) (i : Nat) (x : α) : (l.map f).set i (f x) = (l.set i x).map f := (List.map_set).symm
end My

/-! ### tracks and asks: plain mathematics -/
namespace My
open PySem L2
inductive Tk where
  | cells (n : Int)
  | fit
  | share (k : Int)
  deriving DecidableEq
def Tk.free : Tk → Bool
  | .cells _ => false
  | _ => true
def Tk.told : Tk → Int
  | .cells n => n
  | _ => 0
def Tk.ok : Tk → Prop
  | .cells n => 0 ≤ n
  | .fit => True
  | .share k => 1 ≤ k
def TkAt (H : Hp) (v : V) : Tk → Prop
  | .cells n => v = .int n
  | .fit => v = .str "fit"
  | .share k => ∃ r, v = .ref r ∧ H r = some (.tup [.str "share", .int k])
theorem TkAt.mono {H H' : Hp} {v : V} {t : Tk} (h : TkAt H v t) (s : Same H H') : TkAt H' v t := by
  cases t with
  | cells n => exact h
  | fit => exact h
  | share k => obtain ⟨r, e, g⟩ := h; exact ⟨r, e, s _ _ g⟩
theorem TkAt.but {H H' : Hp} {v : V} {t : Tk} {a : Addr} {xs : List V} (h : TkAt H v t) (g : H a = some (.lst xs)) (b : But a H H') : TkAt H' v t := by
  cases t with
  | cells n => exact h
  | fit => exact h
  | share k => obtain ⟨r, e, g2⟩ := h; exact ⟨r, e, b.app (fun z => by rw [z, g] at g2; cases g2) g2⟩
/-- an item's place, and what stands there -/
def TksAt (H : Hp) (vs : List V) (ts : List Tk) : Prop := vs.length = ts.length ∧ ∀ (i : Nat) (v : V) (t : Tk), vs[i]? = some v → ts[i]? = some t → TkAt H v t
theorem TksAt.mono {H H' : Hp} {vs : List V} {ts : List Tk} (h : TksAt H vs ts) (s : Same H H') : TksAt H' vs ts := ⟨h.1, fun i v t a b => (h.2 i v t a b).mono s⟩
theorem TksAt.but {H H' : Hp} {vs : List V} {ts : List Tk} {a : Addr} {xs : List V} (h : TksAt H vs ts) (g : H a = some (.lst xs)) (b : But a H H') : TksAt H' vs ts := ⟨h.1, fun i v t x y => (h.2 i v t x y).but g b⟩
theorem TksAt.at {H : Hp} {vs : List V} {ts : List Tk} (h : TksAt H vs ts) {i : Nat} {t : Tk} (e : ts[i]? = some t) : ∃ v, vs[i]? = some v ∧ TkAt H v t := by
  have hi := (List.getElem?_eq_some_iff.mp e).1
  have l := h.1
  exact ⟨vs[i], List.getElem?_eq_getElem (by omega), h.2 i _ t (List.getElem?_eq_getElem (by omega)) e⟩
theorem TksAt.at' {H : Hp} {vs : List V} {ts : List Tk} (h : TksAt H vs ts) {i : Nat} {v : V} (e : vs[i]? = some v) : ∃ t, ts[i]? = some t ∧ TkAt H v t := by
  have hi := (List.getElem?_eq_some_iff.mp e).1
  have l := h.1
  exact ⟨ts[i], List.getElem?_eq_getElem (by omega), h.2 i v _ e (List.getElem?_eq_getElem (by omega))⟩
/-! #### how much tracks grow -/
def tkF (ts : List Tk) (i : Nat) : Bool := match ts[i]? with
  | some t => t.free
  | none => false
def freeL (ts : List Tk) (f m : Nat) : List Nat := ((List.range m).map fun k => f + k).filter (tkF ts)
theorem freeL_nodup (ts : List Tk) (f m : Nat) : (freeL ts f m).Nodup := by
  unfold freeL
  refine List.Pairwise.filter _ ?_
  have := List.nodup_range (n := m)
  exact (List.pairwise_map.mpr (this.imp fun h => by omega))
theorem freeL_mem {ts : List Tk} {f m i : Nat} : i ∈ freeL ts f m ↔ f ≤ i ∧ i < f + m ∧ tkF ts i = true := by
  unfold freeL
  rw [List.mem_filter, List.mem_map]
  constructor
  · rintro ⟨⟨k, hk, rfl⟩, h⟩
    have := List.mem_range.mp hk
    exact ⟨by omega, by omega, h⟩
  · rintro ⟨h1, h2, h3⟩
    exact ⟨⟨i - f, List.mem_range.mpr (by omega), by omega⟩, h3⟩
def partA (lack : Int) (L j : Nat) : Int := lack * ((j : Int) + 1) / (L : Int) - lack * (j : Int) / (L : Int)
def sliceSum (ss : List Int) (f m : Nat) : Int := ((ss.take (f + m)).drop f).sum
/-- what an ask deals to a track -/
def pA (ts : List Tk) (ss : List Int) (f m : Nat) (wanted : Int) (i : Nat) : Int :=
  if i ∈ freeL ts f m ∧ 0 < wanted - sliceSum ss f m then partA (wanted - sliceSum ss f m) (freeL ts f m).length ((freeL ts f m).idxOf i) else 0
theorem partA_nonneg {lack : Int} {L j : Nat} (h : 0 ≤ lack) (hL : 0 < L) : 0 ≤ partA lack L j := by
  unfold partA
  have h1 : lack * (j : Int) ≤ lack * ((j : Int) + 1) := Int.mul_le_mul_of_nonneg_left (by omega) h
  have h2 : lack * (j : Int) / (L : Int) ≤ lack * ((j : Int) + 1) / (L : Int) := Int.ediv_le_ediv (by omega) h1
  omega
theorem pA_nonneg (ts : List Tk) (ss : List Int) (f m : Nat) (wanted : Int) (i : Nat) : 0 ≤ pA ts ss f m wanted i := by
  unfold pA
  split
  · next h => exact partA_nonneg (Int.le_of_lt h.2) (List.length_pos_of_mem h.1)
  · exact Int.le_refl 0
/-- the grown ones, by places -/
def growM (n : Nat) (ts : List Tk) (ss g : List Int) (f m : Nat) (wanted : Int) : List Int := (List.range n).map fun i => max (wAt g i) (pA ts ss f m wanted i)
theorem growM_len {n : Nat} {ts : List Tk} {ss g : List Int} {f m : Nat} {wanted : Int} : (growM n ts ss g f m wanted).length = n := by unfold growM; rw [List.length_map, List.length_range]
theorem growM_at {n : Nat} {ts : List Tk} {ss g : List Int} {f m : Nat} {wanted : Int} {i : Nat} (hi : i < n) : wAt (growM n ts ss g f m wanted) i = max (wAt g i) (pA ts ss f m wanted i) := by
  unfold growM wAt
  rw [List.getD_eq_getElem?_getD, List.getElem?_map, List.getElem?_range hi]; rfl
/-- behind the first p places of the free ones -/
def growP (ts : List Tk) (ss g : List Int) (f m : Nat) (wanted : Int) (p : Nat) (i : Nat) : Int :=
  if i ∈ (freeL ts f m).take p then max (wAt g i) (partA (wanted - sliceSum ss f m) (freeL ts f m).length ((freeL ts f m).idxOf i)) else wAt g i
theorem growP_zero {ts : List Tk} {ss g : List Int} {f m : Nat} {wanted : Int} (i : Nat) : growP ts ss g f m wanted 0 i = wAt g i := by
  unfold growP; simp
theorem growP_end {ts : List Tk} {ss g : List Int} {f m : Nat} {wanted : Int} {i : Nat} (hl : 0 < wanted - sliceSum ss f m) (hg : 0 ≤ wAt g i) : growP ts ss g f m wanted (freeL ts f m).length i = max (wAt g i) (pA ts ss f m wanted i) := by
  unfold growP pA
  rw [List.take_length]
  by_cases h : i ∈ freeL ts f m
  · rw [if_pos h, if_pos ⟨h, hl⟩]
  · rw [if_neg h, if_neg (fun z => h z.1)]; omega
theorem growP_skip {ts : List Tk} {ss g : List Int} {f m : Nat} {wanted : Int} {i : Nat} (hl : ¬ 0 < wanted - sliceSum ss f m) (hg : 0 ≤ wAt g i) : wAt g i = max (wAt g i) (pA ts ss f m wanted i) := by
  unfold pA
  rw [if_neg (fun z => hl z.2)]; omega
theorem take_succ_mem {l : List Nat} {p c i : Nat} (h : l[p]? = some c) : i ∈ l.take (p + 1) ↔ i ∈ l.take p ∨ i = c := by
  rw [List.take_add_one, h]; simp
theorem idxOf_at : ∀ {l : List Nat}, l.Nodup → ∀ {p c : Nat}, l[p]? = some c → l.idxOf c = p
  | [], _, _, _, h => by simp at h
  | x :: l, _, 0, c, h => by
    have : x = c := by simpa using h
    subst this
    rw [List.idxOf_cons_self]
  | x :: l, hn, p + 1, c, h => by
    have h : l[p]? = some c := by simpa using h
    have hne : x ≠ c := fun e => (List.nodup_cons.mp hn).1 (by rw [e]; exact List.mem_of_getElem? h)
    rw [List.idxOf_cons, idxOf_at (List.nodup_cons.mp hn).2 h]
    have e : (x == c) = false := beq_eq_false_iff_ne.mpr hne
    rw [e]; rfl
theorem not_mem_take {l : List Nat} (hn : l.Nodup) {p c : Nat} (h : l[p]? = some c) : c ∉ l.take p := fun hm => by
  obtain ⟨j, hj, e⟩ := List.getElem_of_mem hm
  rw [List.length_take] at hj
  rw [List.getElem_take] at e
  have h1 : l[j]? = some c := by rw [List.getElem?_eq_getElem (by omega), e]
  have := idxOf_at hn h1
  have := idxOf_at hn h
  omega
theorem growP_succ {ts : List Tk} {ss g : List Int} {f m : Nat} {wanted : Int} {p c : Nat} (h : (freeL ts f m)[p]? = some c) (i : Nat) :
    growP ts ss g f m wanted (p + 1) i = if i = c then max (growP ts ss g f m wanted p c) (partA (wanted - sliceSum ss f m) (freeL ts f m).length p) else growP ts ss g f m wanted p i := by
  have hn := freeL_nodup ts f m
  unfold growP
  by_cases hi : i = c
  · subst hi
    rw [if_pos ((take_succ_mem h).mpr (.inr rfl)), if_pos rfl, if_neg (not_mem_take hn h), idxOf_at hn h]
  · rw [if_neg hi]
    by_cases hm : i ∈ (freeL ts f m).take p
    · rw [if_pos ((take_succ_mem h).mpr (.inl hm)), if_pos hm]
    · rw [if_neg (fun z => by rcases (take_succ_mem h).mp z with z | z; exact hm z; exact hi z), if_neg hm]
/-! #### the steps -/
abbrev Ask3 := Nat × Nat × Int
def AskAt (H : Hp) (v : V) (q : Ask3) : Prop := ∃ r, v = .ref r ∧ H r = some (.tup [.int (q.1 : Int), .int (q.2.1 : Int), .int q.2.2])
theorem AskAt.mono {H H' : Hp} {v : V} {q : Ask3} (h : AskAt H v q) (s : Same H H') : AskAt H' v q := let ⟨r, e, g⟩ := h; ⟨r, e, s _ _ g⟩
def AsksAt (H : Hp) (vs : List V) (qs : List Ask3) : Prop := vs.length = qs.length ∧ ∀ (i : Nat) (v : V) (q : Ask3), vs[i]? = some v → qs[i]? = some q → AskAt H v q
theorem AsksAt.mono {H H' : Hp} {vs : List V} {qs : List Ask3} (h : AsksAt H vs qs) (s : Same H H') : AsksAt H' vs qs := ⟨h.1, fun i v t a b => (h.2 i v t a b).mono s⟩
theorem AsksAt.at' {H : Hp} {vs : List V} {qs : List Ask3} (h : AsksAt H vs qs) {i : Nat} {v : V} (e : vs[i]? = some v) : ∃ q, qs[i]? = some q ∧ AskAt H v q := by
  have hi := (List.getElem?_eq_some_iff.mp e).1
  have l := h.1
  exact ⟨qs[i], List.getElem?_eq_getElem (by omega), h.2 i v _ e (List.getElem?_eq_getElem (by omega))⟩
/-- an ask that a grid of n tracks takes -/
def AskOk (n : Nat) (q : Ask3) : Prop := 1 ≤ q.2.1 ∧ q.1 + q.2.1 ≤ n ∧ 0 ≤ q.2.2
def grow1 (n : Nat) (ts : List Tk) (gap : Int) (ss : List Int) (many : Nat) (g : List Int) (q : Ask3) : List Int :=
  if q.2.1 = many then growM n ts ss g q.1 q.2.1 (q.2.2 - gap * ((many : Int) - 1)) else g
def grownM (ts : List Tk) (qs : List Ask3) (gap : Int) (ss : List Int) (many : Nat) : List Int := qs.foldl (grow1 ts.length ts gap ss many) (List.replicate ts.length 0)
def stepM (ts : List Tk) (qs : List Ask3) (gap : Int) (ss : List Int) (many : Nat) : List Int := (List.range ts.length).map fun i => wAt ss i + wAt (grownM ts qs gap ss many) i
def trackM (ts : List Tk) (qs : List Ask3) (gap : Int) : List Int := (List.range ts.length).foldl (fun s k => stepM ts qs gap s (k + 1)) (ts.map Tk.told)
theorem stepM_len {ts : List Tk} {qs : List Ask3} {gap : Int} {ss : List Int} {many : Nat} : (stepM ts qs gap ss many).length = ts.length := by unfold stepM; rw [List.length_map, List.length_range]
theorem stepM_at {ts : List Tk} {qs : List Ask3} {gap : Int} {ss : List Int} {many i : Nat} (hi : i < ts.length) : wAt (stepM ts qs gap ss many) i = wAt ss i + wAt (grownM ts qs gap ss many) i := by
  unfold stepM
  conv => lhs; unfold wAt
  rw [List.getD_eq_getElem?_getD, List.getElem?_map, List.getElem?_range hi]; rfl
def stepsM (ts : List Tk) (qs : List Ask3) (gap : Int) (k : Nat) : List Int := (List.range k).foldl (fun s k => stepM ts qs gap s (k + 1)) (ts.map Tk.told)
theorem stepsM_succ (ts : List Tk) (qs : List Ask3) (gap : Int) (k : Nat) : stepsM ts qs gap (k + 1) = stepM ts qs gap (stepsM ts qs gap k) (k + 1) := by
  unfold stepsM
  rw [List.range_succ, List.foldl_append]; rfl
theorem stepsM_len (ts : List Tk) (qs : List Ask3) (gap : Int) : ∀ k, (stepsM ts qs gap k).length = ts.length
  | 0 => by unfold stepsM; simp
  | k + 1 => by rw [stepsM_succ]; exact stepM_len
theorem grow1_len {n : Nat} {ts : List Tk} {gap : Int} {ss : List Int} {many : Nat} {g : List Int} {q : Ask3} (h : g.length = n) : (grow1 n ts gap ss many g q).length = n := by
  unfold grow1
  split
  · exact growM_len
  · exact h
theorem grown_len {n : Nat} {ts : List Tk} {gap : Int} {ss : List Int} {many : Nat} : ∀ (qs : List Ask3) (g : List Int), g.length = n → (qs.foldl (grow1 n ts gap ss many) g).length = n
  | [], g, h => h
  | q :: qs, g, h => grown_len qs _ (grow1_len h)
/-- the greatest of x and some more -/
def maxF (x : Int) (l : List Int) : Int := l.foldl max x
theorem maxF_ge {x : Int} : ∀ {l : List Int}, x ≤ maxF x l
  | [] => Int.le_refl _
  | y :: l => Int.le_trans (show x ≤ max x y by omega) (maxF_ge (l := l))
theorem maxF_all {y : Int} : ∀ {l : List Int} {x : Int}, y ∈ l → y ≤ maxF x l
  | z :: l, x, h => by
    rcases List.mem_cons.mp h with rfl | h
    · exact Int.le_trans (show y ≤ max x y by omega) (maxF_ge (l := l))
    · exact maxF_all (l := l) h
theorem maxF_mem : ∀ {l : List Int} {x : Int}, maxF x l = x ∨ maxF x l ∈ l
  | [], x => .inl rfl
  | y :: l, x => by
    rcases maxF_mem (l := l) (x := max x y) with h | h
    · by_cases hxy : x ≤ y
      · right; show maxF (max x y) l ∈ y :: l
        rw [h, Int.max_eq_right hxy]; exact List.mem_cons_self ..
      · left; show maxF (max x y) l = x
        rw [h]; omega
    · right; exact List.mem_cons_of_mem _ h
theorem maxF_uniq {x : Int} {l : List Int} {m : Int} (h1 : x ≤ m) (h2 : ∀ y ∈ l, y ≤ m) (h3 : m = x ∨ m ∈ l) : m = maxF x l := by
  have a : maxF x l ≤ m := by
    rcases maxF_mem (l := l) (x := x) with h | h
    · omega
    · exact h2 _ h
  have b : m ≤ maxF x l := by
    rcases h3 with h | h
    · rw [h]; exact maxF_ge
    · exact maxF_all h
  omega
theorem maxF_perm {x : Int} {l l' : List Int} (h : ∀ y, y ∈ l ↔ y ∈ l') : maxF x l = maxF x l' :=
  maxF_uniq maxF_ge (fun y hy => maxF_all ((h y).mpr hy)) (maxF_mem.imp id fun z => (h _).mp z)
/-- what all asks of one many deal to a track -/
def dealsA (ts : List Tk) (qs : List Ask3) (gap : Int) (ss : List Int) (many i : Nat) : List Int := (qs.filter fun q => decide (q.2.1 = many)).map fun q => pA ts ss q.1 q.2.1 (q.2.2 - gap * ((many : Int) - 1)) i
theorem grown_at {n : Nat} {ts : List Tk} {gap : Int} {ss : List Int} {many i : Nat} (hi : i < n) : ∀ (qs : List Ask3) (g : List Int), g.length = n → wAt (qs.foldl (grow1 n ts gap ss many) g) i = maxF (wAt g i) (dealsA ts qs gap ss many i)
  | [], g, h => rfl
  | q :: qs, g, h => by
    show wAt (qs.foldl _ (grow1 n ts gap ss many g q)) i = _
    rw [grown_at hi qs _ (grow1_len h)]
    unfold dealsA
    rw [List.filter_cons]
    by_cases e : q.2.1 = many
    · rw [if_pos (decide_eq_true e), List.map_cons]
      unfold grow1
      rw [if_pos e, growM_at hi]; rfl
    · rw [if_neg (by simpa using e)]
      unfold grow1
      rw [if_neg e]
theorem grownM_at {ts : List Tk} {qs : List Ask3} {gap : Int} {ss : List Int} {many i : Nat} (hi : i < ts.length) : wAt (grownM ts qs gap ss many) i = maxF 0 (dealsA ts qs gap ss many i) := by
  unfold grownM
  rw [grown_at hi _ _ List.length_replicate]
  congr 1
  unfold wAt
  rw [List.getD_eq_getElem?_getD, List.getElem?_replicate, if_pos hi]; rfl
theorem list_ext_wAt {xs ys : List Int} (hl : xs.length = ys.length) (h : ∀ i, i < xs.length → wAt xs i = wAt ys i) : xs = ys := by
  apply List.ext_getElem hl
  intro i h1 h2
  have := h i h1
  unfold wAt at this
  rw [List.getD_eq_getElem?_getD, List.getD_eq_getElem?_getD, List.getElem?_eq_getElem h1, List.getElem?_eq_getElem h2] at this
  exact this
theorem told_at {ts : List Tk} {i : Nat} {t : Tk} (h : ts[i]? = some t) : wAt (ts.map Tk.told) i = t.told := by
  unfold wAt
  rw [List.getD_eq_getElem?_getD, List.getElem?_map, h]; rfl
/-! #### asks of one track -/
theorem freeL_one (ts : List Tk) (f : Nat) : freeL ts f 1 = if tkF ts f = true then [f] else [] := by
  unfold freeL
  show List.filter (tkF ts) [f + 0] = _
  rw [Nat.add_zero, List.filter_cons]; rfl
theorem slice_one {ss : List Int} {f : Nat} (h : f < ss.length) : sliceSum ss f 1 = wAt ss f := by
  unfold sliceSum wAt
  rw [List.getD_eq_getElem?_getD, List.getElem?_eq_getElem h, List.drop_take, Nat.add_sub_cancel_left, List.drop_eq_getElem_cons h]
  simp only [List.take_succ_cons, List.take_zero, List.sum_cons, List.sum_nil, Int.add_zero, Option.getD_some]
/-- with asks of one track alone -/
theorem track_single {ts : List Tk} {qs : List Ask3} {gap : Int} (hq : ∀ q ∈ qs, q.2.1 = 1 ∧ q.1 < ts.length) {i : Nat} {t : Tk} (ht : ts[i]? = some t) :
    wAt (trackM ts qs gap) i = if t.free = true then maxF 0 ((qs.filter fun q => decide (q.1 = i)).map fun q => q.2.2) else t.told := by
  have hi := (List.getElem?_eq_some_iff.mp ht).1
  have hf : tkF ts i = t.free := by unfold tkF; rw [ht]
  have later : ∀ (ss : List Int) (k : Nat), wAt (stepM ts qs gap ss (k + 2)) i = wAt ss i := fun ss k => by
    rw [stepM_at hi, grownM_at hi]
    have : dealsA ts qs gap ss (k + 2) i = [] := by
      unfold dealsA
      rw [List.map_eq_nil_iff, List.filter_eq_nil_iff]
      intro q hq'
      have := (hq q hq').1
      simp; omega
    rw [this]
    show wAt ss i + 0 = _
    omega
  have steps : ∀ k, wAt (stepsM ts qs gap (k + 1)) i = wAt (stepsM ts qs gap 1) i := fun k => by
    induction k with
    | zero => rfl
    | succ k ih => rw [stepsM_succ, later, ih]
  have e : trackM ts qs gap = stepsM ts qs gap ts.length := rfl
  obtain ⟨m, hm⟩ : ∃ m, ts.length = m + 1 := ⟨ts.length - 1, by omega⟩
  rw [e, hm, steps]
  have e1 : stepsM ts qs gap 1 = stepM ts qs gap (ts.map Tk.told) 1 := rfl
  rw [e1, stepM_at hi, grownM_at hi, told_at ht]
  have hpa : ∀ q ∈ qs, pA ts (ts.map Tk.told) q.1 q.2.1 (q.2.2 - gap * (((1 : Nat) : Int) - 1)) i = if q.1 = i ∧ t.free = true ∧ 0 < q.2.2 then q.2.2 else 0 := fun q hq' => by
    obtain ⟨h1, h2⟩ := hq q hq'
    unfold pA
    rw [h1, freeL_one, slice_one (by rw [List.length_map]; exact h2)]
    have e0 : gap * (((1 : Nat) : Int) - 1) = 0 := by simp
    rw [e0]
    by_cases hqi : q.1 = i
    · rw [hqi, hf, told_at ht]
      by_cases hfr : t.free = true
      · have h0 : t.told = 0 := by cases t <;> simp_all [Tk.free, Tk.told]
        rw [h0, if_pos hfr]
        by_cases hs : 0 < q.2.2
        · rw [if_pos ⟨by simp, by omega⟩, if_pos ⟨rfl, hfr, hs⟩]
          unfold partA
          simp
        · rw [if_neg (fun z => hs (by omega)), if_neg (fun z => hs z.2.2)]
      · rw [if_neg hfr, if_neg (by simp), if_neg (fun z => hfr z.2.1)]
    · rw [if_neg (fun z => ?_), if_neg (fun z => hqi z.1)]
      have := z.1
      split at this
      · exact hqi (List.mem_singleton.mp this).symm
      · cases this
  by_cases hfr : t.free = true
  · rw [if_pos hfr]
    have h0 : t.told = 0 := by cases t <;> simp_all [Tk.free, Tk.told]
    rw [h0, Int.zero_add]
    refine (maxF_uniq maxF_ge (fun y hy => ?_) ?_)
    · obtain ⟨q, hq1, rfl⟩ := List.mem_map.mp hy
      obtain ⟨hq2, hq3⟩ := List.mem_filter.mp hq1
      have hq3 := of_decide_eq_true hq3
      by_cases hs : 0 < q.2.2
      · refine maxF_all ?_
        unfold dealsA
        refine List.mem_map.mpr ⟨q, List.mem_filter.mpr ⟨hq2, decide_eq_true (hq q hq2).1⟩, ?_⟩
        rw [hpa q hq2, if_pos ⟨hq3, hfr, hs⟩]
      · exact Int.le_trans (by omega) maxF_ge
    · rcases maxF_mem (x := 0) (l := dealsA ts qs gap (ts.map Tk.told) 1 i) with h | h
      · exact .inl h
      · unfold dealsA at h
        obtain ⟨q, hq1, e2⟩ := List.mem_map.mp h
        obtain ⟨hq2, _⟩ := List.mem_filter.mp hq1
        rw [hpa q hq2] at e2
        by_cases hc : q.1 = i ∧ t.free = true ∧ 0 < q.2.2
        · rw [if_pos hc] at e2
          right
          show maxF 0 (List.map _ _) ∈ _
          rw [← e2]
          exact List.mem_map.mpr ⟨q, List.mem_filter.mpr ⟨hq2, decide_eq_true hc.1⟩, rfl⟩
        · rw [if_neg hc] at e2
          left
          unfold dealsA
          exact e2.symm
  · rw [if_neg hfr]
    have : maxF 0 (dealsA ts qs gap (ts.map Tk.told) 1 i) = 0 := by
      symm
      refine maxF_uniq (Int.le_refl 0) (fun y hy => ?_) (.inl rfl)
      unfold dealsA at hy
      obtain ⟨q, hq1, rfl⟩ := List.mem_map.mp hy
      obtain ⟨hq2, _⟩ := List.mem_filter.mp hq1
      rw [hpa q hq2, if_neg (fun z => hfr z.2.1)]
      exact Int.le_refl 0
    rw [this]; omega
/-! #### as data -/
def tkD : Tk → PyData
  | .cells n => .int n
  | .fit => .str "fit"
  | .share k => .tuple [.str "share", .int k]
def askD (q : Ask3) : PyData := .tuple [.int (q.1 : Int), .int (q.2.1 : Int), .int q.2.2]
section
variable {K : PySem.W.Frag} {H : Hp}
theorem dp_tk {v : V} {t : Tk} (h : TkAt H v t) : Dp K H v (tkD t) := by
  cases t with
  | cells n =>
    have e : v = .int n := h
    subst e; exact .int n
  | fit =>
    have e : v = .str "fit" := h
    subst e; exact .str _
  | share k =>
    obtain ⟨r, rfl, g⟩ := h
    exact .tup (sqT g) (.cons (.str _) (.cons (.int _) .nil))
theorem dpAll_of {α : Type} {f : α → PyData} : ∀ {vs : List V} {xs : List α}, vs.length = xs.length → (∀ (i : Nat) (v : V) (x : α), vs[i]? = some v → xs[i]? = some x → Dp K H v (f x)) → DpAll K H vs (xs.map f)
  | [], [], _, _ => .nil
  | [], _ :: _, h, _ => by cases h
  | _ :: _, [], h, _ => by cases h
  | v :: vs, x :: xs, h, k => .cons (k 0 v x rfl rfl) (dpAll_of (by simpa using h) fun i w y a b => k (i + 1) w y a b)
theorem dp_tks {vs : List V} {ts : List Tk} (h : TksAt H vs ts) : DpAll K H vs (ts.map tkD) := dpAll_of h.1 fun i v t a b => dp_tk (h.2 i v t a b)
theorem dp_ask {v : V} {q : Ask3} (h : AskAt H v q) : Dp K H v (askD q) := by
  obtain ⟨r, rfl, g⟩ := h
  exact .tup (sqT g) (.cons (.int _) (.cons (.int _) (.cons (.int _) .nil)))
theorem dp_asks {vs : List V} {qs : List Ask3} (h : AsksAt H vs qs) : DpAll K H vs (qs.map askD) := dpAll_of h.1 fun i v t a b => dp_ask (h.2 i v t a b)
end
theorem tkD_can (t : Tk) : (tkD t).canLay0 = true ∧ (tkD t).depth ≤ 1 := by cases t <;> simp [tkD, PyData.canLay0, PyData.canLayAll0, PyData.depth, PyData.depthAll] <;> decide +kernel
theorem tkD_nob (t : Tk) : nob (tkD t) = true := by cases t <;> simp [tkD, nob, nobAll]
theorem askD_can (q : Ask3) : (askD q).canLay0 = true ∧ (askD q).depth ≤ 1 := by simp [askD, PyData.canLay0, PyData.canLayAll0, PyData.depth, PyData.depthAll]
theorem askD_nob (q : Ask3) : nob (askD q) = true := by simp [askD, nob, nobAll]
theorem tks_shaped (ts : List Tk) : SeqAt.shaped (.list (ts.map tkD)) = true := shaped_map (m := 1) (by decide) (fun t => (tkD_can t).1) (fun t => (tkD_can t).2) ts
theorem asks_shaped (qs : List Ask3) : SeqAt.shaped (.list (qs.map askD)) = true := shaped_map (m := 1) (by decide) (fun t => (askD_can t).1) (fun t => (askD_can t).2) qs
/-- a thing's kind -/
def Tk.ty : Tk → String
  | .cells _ => "int"
  | .fit => "str"
  | .share _ => "tuple"
theorem TkAt.t7 {H : Hp} {v : V} {t : Tk} (h : TkAt H v t) : Ty7 H v t.ty := by
  cases t with
  | cells n =>
    have e : v = .int n := h
    subst e; exact .int n
  | fit =>
    have e : v = .str "fit" := h
    subst e; exact .str _
  | share k =>
    obtain ⟨r, rfl, g⟩ := h
    exact .tup g
theorem TkAt.isI {H : Hp} {v : V} {t : Tk} (h : TkAt H v t) : isI v = !t.free := by
  cases t with
  | cells n =>
    have e : v = .int n := h
    subst e; rfl
  | fit =>
    have e : v = .str "fit" := h
    subst e; rfl
  | share k =>
    obtain ⟨r, rfl, g⟩ := h
    rfl
theorem free_nats {ts : List Tk} {f m : Nat} : ((List.range m).filter fun i => tkF ts (f + i)).map (fun i : Nat => V.int ((f : Int) + (i : Int))) = natsV (freeL ts f m) := by
  unfold freeL natsV
  rw [List.filter_map, List.map_map]
  refine List.map_congr_left fun i _ => ?_
  show _ = V.int ((f + i : Nat) : Int)
  rw [Int.natCast_add]
theorem cut_ints (ss : List Int) (f m : Nat) : cutV (ss.map V.int) (some (f : Int)) (some ((f : Int) + (m : Int))) = ((ss.take (f + m)).drop f).map V.int := by
  rw [← Int.natCast_add, cutV_mid _ _ _ (by omega), ← List.map_take, ← List.map_drop]
theorem growM_skip {n : Nat} {ts : List Tk} {ss g : List Int} {f m : Nat} {wanted : Int} (hl : ¬ 0 < wanted - sliceSum ss f m) (hg : ∀ z ∈ g, 0 ≤ z) (lg : g.length = n) : growM n ts ss g f m wanted = g := by
  refine list_ext_wAt (by rw [growM_len, lg]) fun i hi => ?_
  rw [growM_len] at hi
  rw [growM_at hi]
  exact (growP_skip hl (hg _ (wAt_mem (by omega)))).symm
abbrev growL (n : Nat) (ts : List Tk) (ss g : List Int) (f m : Nat) (wanted : Int) (p : Nat) : List Int := (List.range n).map (growP ts ss g f m wanted p)
theorem growL_zero {n : Nat} {ts : List Tk} {ss g : List Int} {f m : Nat} {wanted : Int} (lg : g.length = n) : growL n ts ss g f m wanted 0 = g := by
  refine list_ext_wAt (by rw [List.length_map, List.length_range, lg]) fun i hi => ?_
  rw [List.length_map, List.length_range] at hi
  unfold wAt
  rw [List.getD_eq_getElem?_getD, List.getElem?_map, range_get hi]
  show growP ts ss g f m wanted 0 i = _
  rw [growP_zero]; rfl
theorem growL_end {n : Nat} {ts : List Tk} {ss g : List Int} {f m : Nat} {wanted : Int} (hl : 0 < wanted - sliceSum ss f m) (hg : ∀ z ∈ g, 0 ≤ z) (lg : g.length = n) : growL n ts ss g f m wanted (freeL ts f m).length = growM n ts ss g f m wanted := by
  unfold growL growM
  refine List.map_congr_left fun i hi => ?_
  have hi := List.mem_range.mp hi
  exact growP_end hl (hg _ (wAt_mem (by omega)))
theorem growL_at {n : Nat} {ts : List Tk} {ss g : List Int} {f m : Nat} {wanted : Int} {p c : Nat} (hc : c < n) : ((growL n ts ss g f m wanted p).map V.int)[c]? = some (.int (growP ts ss g f m wanted p c)) := by
  rw [List.getElem?_map, List.getElem?_map, range_get hc]; rfl
theorem growL_set {n : Nat} {ts : List Tk} {ss g : List Int} {f m : Nat} {wanted : Int} {p c : Nat} (h : (freeL ts f m)[p]? = some c) :
    ((growL n ts ss g f m wanted p).map V.int).set c (.int (max (growP ts ss g f m wanted p c) (partA (wanted - sliceSum ss f m) (freeL ts f m).length p))) = (growL n ts ss g f m wanted (p + 1)).map V.int := by
  apply List.ext_getElem?
  intro i
  rw [List.getElem?_set, List.getElem?_map, List.getElem?_map, List.getElem?_map, List.getElem?_map]
  by_cases hi : i < n
  · rw [range_get hi]
    by_cases hci : c = i
    · subst hci
      rw [if_pos rfl, if_pos (by rw [List.length_map, List.length_map, List.length_range]; exact hi)]
      show _ = some (V.int (growP ts ss g f m wanted (p + 1) c))
      rw [growP_succ h, if_pos rfl]
    · rw [if_neg hci]
      show some (V.int (growP ts ss g f m wanted p i)) = some (V.int (growP ts ss g f m wanted (p + 1) i))
      rw [growP_succ h, if_neg (fun e => hci e.symm)]
  · rw [List.getElem?_eq_none (by rw [List.length_range]; omega)]
    by_cases hci : c = i
    · subst hci
      rw [if_pos rfl, if_neg (by rw [List.length_map, List.length_map, List.length_range]; exact hi)]; rfl
    · rw [if_neg hci]; rfl
theorem AskAt.but {H H' : Hp} {v : V} {q : Ask3} {a : Addr} {xs : List V} (h : AskAt H v q) (g : H a = some (.lst xs)) (b : But a H H') : AskAt H' v q := let ⟨r, e, g2⟩ := h; ⟨r, e, b.app (fun z => by rw [z, g] at g2; cases g2) g2⟩
theorem grow1_nonneg {n : Nat} {ts : List Tk} {gap : Int} {ss : List Int} {many : Nat} {g : List Int} {q : Ask3} (h : ∀ z ∈ g, 0 ≤ z) : ∀ z ∈ grow1 n ts gap ss many g q, 0 ≤ z := fun z hz => by
  unfold grow1 at hz
  split at hz
  · unfold growM at hz
    obtain ⟨i, _, rfl⟩ := List.mem_map.mp hz
    have := pA_nonneg ts ss q.1 q.2.1 (q.2.2 - gap * ((many : Int) - 1)) i
    omega
  · exact h z hz
theorem grown_nonneg {n : Nat} {ts : List Tk} {gap : Int} {ss : List Int} {many : Nat} : ∀ (qs : List Ask3) (g : List Int), (∀ z ∈ g, 0 ≤ z) → ∀ z ∈ qs.foldl (grow1 n ts gap ss many) g, 0 ≤ z
  | [], g, h => h
  | q :: qs, g, h => grown_nonneg qs _ (grow1_nonneg h)
theorem foldl_take {α β : Type} {f : β → α → β} {l : List α} {x : β} {i : Nat} {a : α} (h : l[i]? = some a) : (l.take (i + 1)).foldl f x = f ((l.take i).foldl f x) a := by
  rw [List.take_add_one, h, List.foldl_append]; rfl
theorem stepM_V {ts : List Tk} {qs : List Ask3} {gap : Int} {ss : List Int} {many : Nat} : (List.range ts.length).map (fun i => V.int (wAt ss i + wAt (grownM ts qs gap ss many) i)) = (stepM ts qs gap ss many).map V.int := by
  unfold stepM
  rw [List.map_map]; rfl
theorem AsksAt.but {H H' : Hp} {vs : List V} {qs : List Ask3} {a : Addr} {xs : List V} (h : AsksAt H vs qs) (g : H a = some (.lst xs)) (b : But a H H') : AsksAt H' vs qs := ⟨h.1, fun i v q x y => (h.2 i v q x y).but g b⟩
theorem TksAt.dr {H H' : Hp} {vs : List V} {ts : List Tk} {a : Addr} (h : TksAt H vs ts) (hs : Src H a) (d : Dr a H H') : TksAt H' vs ts := let ⟨_, e⟩ := hs; h.but e d.b
theorem AsksAt.dr {H H' : Hp} {vs : List V} {qs : List Ask3} {a : Addr} (h : AsksAt H vs qs) (hs : Src H a) (d : Dr a H H') : AsksAt H' vs qs := let ⟨_, e⟩ := hs; h.but e d.b
theorem TkAt.dr {H H' : Hp} {v : V} {t : Tk} {a : Addr} (h : TkAt H v t) (hs : Src H a) (d : Dr a H H') : TkAt H' v t := let ⟨_, e⟩ := hs; h.but e d.b
theorem AsksAt.snoc {H : Hp} {vs : List V} {qs : List Ask3} {v : V} {q : Ask3} (h : AsksAt H vs qs) (hv : AskAt H v q) : AsksAt H (vs ++ [v]) (qs ++ [q]) := by
  have l := h.1
  refine ⟨by simp [l], fun i x y hx hy => ?_⟩
  by_cases hi : i < vs.length
  · rw [List.getElem?_append_left hi] at hx
    rw [List.getElem?_append_left (by omega)] at hy
    exact h.2 i x y hx hy
  · have : i = vs.length := by
      have := (List.getElem?_eq_some_iff.mp hx).1
      simp at this; omega
    subst this
    rw [List.getElem?_concat_length] at hx
    rw [l, List.getElem?_concat_length] at hy
    cases hx; cases hy; exact hv
theorem both_shaped (ts : List Tk) (qs : List Ask3) : SeqAt.shaped (.list [.list (ts.map tkD), .list (qs.map askD)]) = true := by
  unfold SeqAt.shaped
  have c1 := canLayAll0_map (g := tkD) (fun x => (tkD_can x).1) ts
  have c2 := canLayAll0_map (g := askD) (fun x => (askD_can x).1) qs
  have d1 := depthAll_map (g := tkD) (m := 1) (fun x => (tkD_can x).2) ts
  have d2 := depthAll_map (g := askD) (m := 1) (fun x => (askD_can x).2) qs
  rw [Bool.and_eq_true]
  refine ⟨by simp only [PyData.canLay0, PyData.canLayAll0, c1, c2, Bool.and_self], decide_eq_true ?_⟩
  simp only [PyData.depth, PyData.depthAll]; omega
theorem both_same (ts : List Tk) (qs : List Ask3) : PyData.eqv (.list [.list (ts.map tkD), .list (qs.map askD)]) (.list [.list (ts.map tkD), .list (qs.map askD)]) = true := by
  have n : nob (.list [.list (ts.map tkD), .list (qs.map askD)]) = true := by
    have h1 := nobAll_map (g := tkD) tkD_nob ts
    have h2 := nobAll_map (g := askD) askD_nob qs
    simp only [nob, nobAll, h1, h2, Bool.and_self]
  exact (eqv_iff n n).mpr rfl
end My

/-! ### tracks: asks reached, asks in another order: plain mathematics -/
namespace My
open PySem L2
theorem trackM_rev (ts : List Tk) (qs : List Ask3) (gap : Int) : trackM ts qs.reverse gap = trackM ts qs gap := by
  have h : ∀ ss many, stepM ts qs.reverse gap ss many = stepM ts qs gap ss many := fun ss many => by
    unfold stepM
    refine List.map_congr_left fun i hi => ?_
    have hi := List.mem_range.mp hi
    rw [grownM_at hi, grownM_at hi]
    congr 1
    refine maxF_perm fun y => ?_
    unfold dealsA
    rw [List.filter_reverse, List.map_reverse, List.mem_reverse]
  unfold trackM
  have e : (fun s k => stepM ts qs.reverse gap s (k + 1)) = (fun s k => stepM ts qs gap s (k + 1)) := by
    funext s k
    exact h s (k + 1)
  rw [e]
abbrev seg (f m : Nat) : List Nat := (List.range m).map fun k => f + k
theorem seg_mem {f m i : Nat} : i ∈ seg f m ↔ f ≤ i ∧ i < f + m := by
  rw [List.mem_map]
  constructor
  · rintro ⟨k, hk, rfl⟩
    have := List.mem_range.mp hk
    omega
  · intro h
    exact ⟨i - f, List.mem_range.mpr (by omega), by omega⟩
theorem slice_S {ss : List Int} {f : Nat} : ∀ {m : Nat}, f + m ≤ ss.length → sliceSum ss f m = S (wAt ss) (seg f m) := by
  intro m
  induction m with
  | zero => intro _; unfold sliceSum; simp [S]
  | succ m ih =>
    intro h
    have h2 := ih (by omega)
    have e1 : seg f (m + 1) = seg f m ++ [f + m] := by unfold seg; rw [List.range_succ, List.map_append]; rfl
    rw [e1, S_append, ← h2]
    unfold sliceSum
    have e2 : (ss.take (f + (m + 1))) = ss.take (f + m) ++ [wAt ss (f + m)] := by
      rw [← Nat.add_assoc, List.take_add_one, List.getElem?_eq_getElem (by omega : f + m < ss.length)]
      congr 1
      unfold wAt
      rw [List.getD_eq_getElem?_getD, List.getElem?_eq_getElem (by omega : f + m < ss.length)]; rfl
    rw [e2, List.drop_append_of_le_length (by rw [List.length_take]; omega), List.sum_append]
    rfl
theorem parts_all (lack : Int) {L : Nat} (hL : 0 < L) : S (fun j => partA lack L j) (List.range L) = lack := by
  have key : ∀ n, S (fun j => partA lack L j) (List.range n) = lack * (n : Int) / (L : Int) := by
    intro n
    induction n with
    | zero => simp [S]
    | succ n ih =>
      rw [List.range_succ, S_append, ih, S_cons, S_nil]
      unfold partA
      have : ((n + 1 : Nat) : Int) = (n : Int) + 1 := by omega
      rw [this]; omega
  rw [key, Int.mul_ediv_cancel _ (by omega)]
theorem pA_sum {ts : List Tk} {ss : List Int} {f m : Nat} {wanted : Int} (hl : 0 < wanted - sliceSum ss f m) (hne : freeL ts f m ≠ []) : S (pA ts ss f m wanted) (seg f m) = wanted - sliceSum ss f m := by
  have hL : 0 < (freeL ts f m).length := List.length_pos_iff.mpr hne
  rw [S_split _ (tkF ts)]
  have e0 : S (pA ts ss f m wanted) ((seg f m).filter fun i => !tkF ts i) = 0 := by
    have : S (pA ts ss f m wanted) ((seg f m).filter fun i => !tkF ts i) = S (fun _ => 0 * 0) ((seg f m).filter fun i => !tkF ts i) := S_congr fun i hi => by
      have h := (List.mem_filter.mp hi).2
      unfold pA
      rw [if_neg (fun z => ?_)]; rfl
      have := (freeL_mem.mp z.1).2.2
      rw [this] at h; cases h
    rw [this, S_mul, Int.zero_mul]
  have e1 : S (pA ts ss f m wanted) ((seg f m).filter (tkF ts)) = S (fun j => partA (wanted - sliceSum ss f m) (freeL ts f m).length j) (List.range (freeL ts f m).length) := by
    show ((freeL ts f m).map _).sum = _
    unfold S
    congr 1
    apply List.ext_getElem?
    intro j
    rw [List.getElem?_map, List.getElem?_map]
    by_cases hj : j < (freeL ts f m).length
    · rw [List.getElem?_eq_getElem hj, range_get hj]
      show some (pA ts ss f m wanted (freeL ts f m)[j]) = some _
      unfold pA
      rw [if_pos ⟨List.getElem_mem _, hl⟩, idxOf_at (freeL_nodup ts f m) (List.getElem?_eq_getElem hj)]
    · rw [List.getElem?_eq_none (by omega), List.getElem?_eq_none (by rw [List.length_range]; omega)]; rfl
  rw [e0, e1, parts_all _ hL]; omega
theorem step_ge {ts : List Tk} {qs : List Ask3} {gap : Int} {k i : Nat} (hi : i < ts.length) : wAt (stepsM ts qs gap k) i ≤ wAt (stepsM ts qs gap (k + 1)) i := by
  rw [stepsM_succ, stepM_at hi, grownM_at hi]
  have : 0 ≤ maxF 0 (dealsA ts qs gap (stepsM ts qs gap k) (k + 1) i) := maxF_ge
  omega
theorem steps_ge {ts : List Tk} {qs : List Ask3} {gap : Int} {i : Nat} (hi : i < ts.length) : ∀ (d k : Nat), wAt (stepsM ts qs gap k) i ≤ wAt (stepsM ts qs gap (k + d)) i
  | 0, _ => Int.le_refl _
  | d + 1, k => Int.le_trans (steps_ge hi d k) (step_ge hi)
/-- each ask that has a track that isn't of so many cells has its size at least -/
theorem ask_reached {ts : List Tk} {qs : List Ask3} {gap : Int} {q : Ask3} (hq : q ∈ qs) (ok : AskOk ts.length q) (hne : freeL ts q.1 q.2.1 ≠ []) : q.2.2 ≤ sliceSum (trackM ts qs gap) q.1 q.2.1 + gap * ((q.2.1 : Int) - 1) := by
  obtain ⟨o1, o2, o3⟩ := ok
  obtain ⟨f, m, size⟩ := q
  have o1 : 1 ≤ m := o1
  obtain ⟨k, rfl⟩ : ∃ k, m = k + 1 := ⟨m - 1, by omega⟩
  have o1 : 1 ≤ k + 1 := o1
  have o2 : f + (k + 1) ≤ ts.length := o2
  show size ≤ sliceSum (trackM ts qs gap) f (k + 1) + gap * (((k + 1 : Nat) : Int) - 1)
  have hne : freeL ts f (k + 1) ≠ [] := hne
  have e : trackM ts qs gap = stepsM ts qs gap ((k + 1) + (ts.length - (k + 1))) := by
    rw [show (k + 1) + (ts.length - (k + 1)) = ts.length by omega]; rfl
  have l1 : ∀ j, (stepsM ts qs gap j).length = ts.length := stepsM_len ts qs gap
  rw [e, slice_S (by rw [l1]; exact o2)]
  have h1 : S (wAt (stepsM ts qs gap (k + 1))) (seg f (k + 1)) ≤ S (wAt (stepsM ts qs gap ((k + 1) + (ts.length - (k + 1))))) (seg f (k + 1)) := S_le fun i hi => by
    have := seg_mem.mp hi
    exact steps_ge (by omega) _ _
  obtain ⟨wd, hwd⟩ : ∃ wd, wd = size - gap * (((k + 1 : Nat) : Int) - 1) := ⟨_, rfl⟩
  have h2 : S (wAt (stepsM ts qs gap k)) (seg f (k + 1)) + S (pA ts (stepsM ts qs gap k) f (k + 1) wd) (seg f (k + 1)) ≤ S (wAt (stepsM ts qs gap (k + 1))) (seg f (k + 1)) := by
    have : S (fun i => wAt (stepsM ts qs gap k) i + pA ts (stepsM ts qs gap k) f (k + 1) wd i) (seg f (k + 1)) = S (wAt (stepsM ts qs gap k)) (seg f (k + 1)) + S (pA ts (stepsM ts qs gap k) f (k + 1) wd) (seg f (k + 1)) := by
      have add : ∀ R : List Nat, S (fun i => wAt (stepsM ts qs gap k) i + pA ts (stepsM ts qs gap k) f (k + 1) wd i) R = S (wAt (stepsM ts qs gap k)) R + S (pA ts (stepsM ts qs gap k) f (k + 1) wd) R := fun R => by
        induction R with
        | nil => rfl
        | cons i R ih => rw [S_cons, S_cons, S_cons, ih]; omega
      exact add _
    rw [← this]
    refine S_le fun i hi => ?_
    have hi := seg_mem.mp hi
    rw [stepsM_succ, stepM_at (by omega), grownM_at (by omega)]
    have : pA ts (stepsM ts qs gap k) f (k + 1) wd i ≤ maxF 0 (dealsA ts qs gap (stepsM ts qs gap k) (k + 1) i) := by
      refine maxF_all ?_
      unfold dealsA
      refine List.mem_map.mpr ⟨(f, k + 1, size), List.mem_filter.mpr ⟨hq, decide_eq_true rfl⟩, ?_⟩
      rw [hwd]
    omega
  have h3 : sliceSum (stepsM ts qs gap k) f (k + 1) = S (wAt (stepsM ts qs gap k)) (seg f (k + 1)) := slice_S (by rw [l1]; exact o2)
  by_cases hl : 0 < wd - sliceSum (stepsM ts qs gap k) f (k + 1)
  · rw [pA_sum hl hne] at h2
    omega
  · have h4 : 0 ≤ S (pA ts (stepsM ts qs gap k) f (k + 1) wd) (seg f (k + 1)) := S_nonneg fun i _ => pA_nonneg ..
    omega
theorem AsksAt.rev {H : Hp} {vs : List V} {qs : List Ask3} (h : AsksAt H vs qs) : AsksAt H vs.reverse qs.reverse := by
  have l := h.1
  refine ⟨by rw [List.length_reverse, List.length_reverse, l], fun i v q hv hq => ?_⟩
  have hi := (List.getElem?_eq_some_iff.mp hv).1
  rw [List.length_reverse] at hi
  rw [List.getElem?_reverse hi] at hv
  rw [List.getElem?_reverse (by omega), ← l] at hq
  exact h.2 _ v q hv hq
theorem natI_ne {l : List Nat} : (!decide (natI l = [])) = !decide (l = []) := by
  rw [decide_eq_decide.mpr natI_nil]
end My

/-! ### tracks and asks that may be none -/
namespace My
open PySem L2
def flatD : PyData → Bool
  | .none => true
  | .bool _ => true
  | .int _ => true
  | .str _ => true
  | _ => false
def flV : PyData → V
  | .none => .non
  | .bool b => .bl b
  | .int i => .int i
  | .str s => .str s
  | _ => .non
def tyD : PyData → String
  | .none => "NoneType"
  | .bool _ => "bool"
  | .int _ => "int"
  | .str _ => "str"
  | .list _ => "list"
  | .tuple _ => "tuple"
  | .dict _ => "dict"
inductive It (H : Hp) : V → PyData → Prop
  | fl (d : PyData) (f : flatD d = true) : It H (flV d) d
  | tup {r : Addr} {ds : List PyData} (g : H r = some (.tup (ds.map flV))) (f : ds.all flatD = true) : It H (.ref r) (.tuple ds)
  | lst {r : Addr} {ds : List PyData} (g : H r = some (.lst (ds.map flV))) (f : ds.all flatD = true) : It H (.ref r) (.list ds)
section
variable {H H' : Hp} {v : V} {d : PyData}
theorem fl_t7 : ∀ {d : PyData}, flatD d = true → Ty7 H (flV d) (tyD d)
  | .none, _ => .non
  | .bool b, _ => .bl b
  | .int i, _ => .int i
  | .str s, _ => .str s
  | .list _, h => by cases h
  | .tuple _, h => by cases h
  | .dict _, h => by cases h
theorem It.t7 (h : It H v d) : Ty7 H v (tyD d) := by
  cases h with
  | fl _ f => exact fl_t7 f
  | tup g _ => exact .tup g
  | lst g _ => exact .lst g
theorem It.mono (h : It H v d) (s : Same H H') : It H' v d := by
  cases h with
  | fl _ f => exact .fl _ f
  | tup g f => exact .tup (s _ _ g) f
  | lst g f => exact .lst (s _ _ g) f
theorem It.but {a : Addr} (h : It H v d) (b : But a H H') (n : v ≠ .ref a) : It H' v d := by
  cases h with
  | fl _ f => exact .fl _ f
  | tup g f => exact .tup (b.app (fun e => n (by rw [e])) g) f
  | lst g f => exact .lst (b.app (fun e => n (by rw [e])) g) f
theorem fl_dp {K : PySem.W.Frag} : ∀ {d : PyData}, flatD d = true → Dp K H (flV d) d
  | .none, _ => .non
  | .bool b, _ => .bl b
  | .int i, _ => .int i
  | .str s, _ => .str s
  | .list _, h => by cases h
  | .tuple _, h => by cases h
  | .dict _, h => by cases h
theorem fl_dps {K : PySem.W.Frag} : ∀ {ds : List PyData}, ds.all flatD = true → DpAll K H (ds.map flV) ds
  | [], _ => .nil
  | d :: ds, h => by
    rw [List.all_cons, Bool.and_eq_true] at h
    exact .cons (fl_dp h.1) (fl_dps h.2)
theorem It.dp {K : PySem.W.Frag} (h : It H v d) : Dp K H v d := by
  cases h with
  | fl _ f => exact fl_dp f
  | tup g f => exact .tup (sqT g) (fl_dps f)
  | lst g f => exact .lst (sqL g) (fl_dps f)
/-- flat, or an object -/
theorem It.kind (h : It H v d) : flatB v = true ∨ ∃ r, v = .ref r := by
  cases h with
  | fl d f => cases d <;> first | exact .inl rfl | cases f
  | tup g f => exact .inr ⟨_, rfl⟩
  | lst g f => exact .inr ⟨_, rfl⟩
end
/-! #### what is a track, an ask -/
def isP : V → Bool
  | .int k => decide (1 ≤ k)
  | _ => false
def trackB : PyData → Bool
  | .tuple [a, b] => decide (flV a = .str "share") && isP (flV b)
  | .tuple _ => false
  | .list _ => false
  | .dict _ => false
  | d => isN (flV d) || decide (flV d = .str "fit")
def strD : PyData → Bool
  | .str _ => true
  | _ => false
/-- its first item can be compared; it can be laid -/
def fineD (d : PyData) : Bool := d.canLay0 && decide (d.depth ≤ 1) && (match d with
  | .tuple [a, _] => strD a
  | _ => true)
def stretchB (n : Int) : V → V → Bool
  | .int f, .int m => decide (0 ≤ f) && decide (1 ≤ m) && decide (f + m ≤ n)
  | _, _ => false
def askB (n : Int) : PyData → Bool
  | .tuple [a, b, c] => stretchB n (flV a) (flV b) && isN (flV c)
  | _ => false
def ItsAt (H : Hp) (vs : List V) (ds : List PyData) : Prop := vs.length = ds.length ∧ ∀ (i : Nat) (v : V) (d : PyData), vs[i]? = some v → ds[i]? = some d → It H v d
section
variable {H H' : Hp} {vs : List V} {ds : List PyData} {v : V} {d : PyData}
theorem ItsAt.mono (h : ItsAt H vs ds) (s : Same H H') : ItsAt H' vs ds := ⟨h.1, fun i v d a b => (h.2 i v d a b).mono s⟩
theorem ItsAt.but {a : Addr} (h : ItsAt H vs ds) (b : But a H H') (n : ∀ v ∈ vs, v ≠ .ref a) : ItsAt H' vs ds := ⟨h.1, fun i v d x y => (h.2 i v d x y).but b (n v (List.mem_of_getElem? x))⟩
theorem ItsAt.at' (h : ItsAt H vs ds) {i : Nat} (e : vs[i]? = some v) : ∃ d, ds[i]? = some d ∧ It H v d := by
  have hi := (List.getElem?_eq_some_iff.mp e).1
  have l := h.1
  exact ⟨ds[i], List.getElem?_eq_getElem (by omega), h.2 i v _ e (List.getElem?_eq_getElem (by omega))⟩
theorem ItsAt.dp {K : PySem.W.Frag} : ∀ {vs : List V} {ds : List PyData}, ItsAt H vs ds → DpAll K H vs ds
  | [], [], _ => .nil
  | [], _ :: _, h => by cases h.1
  | _ :: _, [], h => by cases h.1
  | v :: vs, d :: ds, h => .cons (h.2 0 v d rfl rfl).dp (ItsAt.dp ⟨by simpa using h.1, fun i w e a b => h.2 (i + 1) w e a b⟩)
theorem ItsAt.kind (h : ItsAt H vs ds) : ∀ v ∈ vs, flatB v = true ∨ ∃ r, v = .ref r := fun v hv => by
  obtain ⟨i, hi⟩ := List.getElem?_of_mem hv
  obtain ⟨d, _, hd⟩ := h.at' hi
  exact hd.kind
theorem ItsAt.set (h : ItsAt H vs ds) (i : Nat) (hv : It H v d) : ItsAt H (vs.set i v) (ds.set i d) := by
  refine ⟨by rw [List.length_set, List.length_set]; exact h.1, fun j w e a b => ?_⟩
  by_cases hj : i = j
  · subst hj
    have l := (List.getElem?_eq_some_iff.mp a).1
    have l2 := (List.getElem?_eq_some_iff.mp b).1
    rw [List.length_set] at l l2
    rw [List.getElem?_set_self l] at a
    rw [List.getElem?_set_self l2] at b
    cases a; cases b
    exact hv
  · rw [List.getElem?_set_ne hj] at a b
    exact h.2 j w e a b
theorem ItsAt.append {us : List V} {es : List PyData} (h : ItsAt H vs ds) (g : ItsAt H us es) : ItsAt H (vs ++ us) (ds ++ es) := by
  refine ⟨by rw [List.length_append, List.length_append, h.1, g.1], fun j w e a b => ?_⟩
  by_cases hj : j < vs.length
  · rw [List.getElem?_append_left hj] at a
    rw [List.getElem?_append_left (by have := h.1; omega)] at b
    exact h.2 j w e a b
  · rw [List.getElem?_append_right (by omega)] at a
    rw [List.getElem?_append_right (by have := h.1; omega), ← h.1] at b
    exact g.2 _ w e a b
theorem ItsAt.take (h : ItsAt H vs ds) (n : Nat) : ItsAt H (vs.take n) (ds.take n) := by
  refine ⟨by rw [List.length_take, List.length_take, h.1], fun j w e a b => ?_⟩
  rw [List.getElem?_take] at a b
  split at a
  · next q => rw [if_pos q] at b; exact h.2 j w e a b
  · cases a
theorem ItsAt.drop (h : ItsAt H vs ds) (n : Nat) : ItsAt H (vs.drop n) (ds.drop n) := by
  refine ⟨by rw [List.length_drop, List.length_drop, h.1], fun j w e a b => ?_⟩
  rw [List.getElem?_drop] at a b
  exact h.2 _ w e a b
theorem ItsAt.one (hv : It H v d) : ItsAt H [v] [d] := ⟨rfl, fun i w e a b => by
  cases i with
  | zero => cases a; cases b; exact hv
  | succ i => cases a⟩
end
/-! #### good ones -/
section
variable {H H' : Hp} {v : V}
theorem tk_it {t : Tk} (h : TkAt H v t) : It H v (tkD t) := by
  cases t with
  | cells n => have e : v = .int n := h; subst e; exact .fl (.int n) rfl
  | fit => have e : v = .str "fit" := h; subst e; exact .fl (.str "fit") rfl
  | share k => obtain ⟨r, rfl, g⟩ := h; exact .tup (ds := [.str "share", .int k]) g rfl
theorem tk_fine (t : Tk) : fineD (tkD t) = true := by
  have := tkD_can t
  unfold fineD
  rw [this.1, decide_eq_true this.2]
  cases t <;> rfl
theorem tk_ok {t : Tk} (h : t.ok) : trackB (tkD t) = true := by
  cases t with
  | cells n => show (decide (0 ≤ n) || _) = true; rw [decide_eq_true (show 0 ≤ n from h)]; rfl
  | fit => rfl
  | share k =>
    show (decide (V.str "share" = V.str "share") && decide (1 ≤ k)) = true
    rw [decide_eq_true (show 1 ≤ k from h), decide_eq_true rfl]; rfl
theorem ask_it {q : Ask3} (h : AskAt H v q) : It H v (askD q) := by
  obtain ⟨r, rfl, g⟩ := h
  exact .tup (ds := [.int (q.1 : Int), .int (q.2.1 : Int), .int q.2.2]) g rfl
theorem ask_ok {n : Nat} {q : Ask3} (h : AskOk n q) : askB (n : Int) (askD q) = true := by
  obtain ⟨o1, o2, o3⟩ := h
  show (decide ((0 : Int) ≤ (q.1 : Int)) && decide ((1 : Int) ≤ (q.2.1 : Int)) && decide ((q.1 : Int) + (q.2.1 : Int) ≤ (n : Int)) && decide (0 ≤ q.2.2)) = true
  rw [decide_eq_true (by omega), decide_eq_true (by omega), decide_eq_true (by omega), decide_eq_true o3]; rfl
theorem tks_its {vs : List V} {ts : List Tk} (h : TksAt H vs ts) : ItsAt H vs (ts.map tkD) := by
  refine ⟨by rw [List.length_map]; exact h.1, fun i v d a b => ?_⟩
  obtain ⟨t, ht, hat⟩ := h.at' a
  rw [List.getElem?_map, ht] at b
  cases b
  exact tk_it hat
theorem asks_its {vs : List V} {qs : List Ask3} (h : AsksAt H vs qs) : ItsAt H vs (qs.map askD) := by
  refine ⟨by rw [List.length_map]; exact h.1, fun i v d a b => ?_⟩
  obtain ⟨t, ht, hat⟩ := h.at' a
  rw [List.getElem?_map, ht] at b
  cases b
  exact ask_it hat
end
/-! #### lists of them -/
inductive TrsAt (H : Hp) : V → Bool → Prop
  | no {t : V} {ty : String} (h : Ty7 H t ty) (n : ty ≠ "list") : TrsAt H t false
  | lst {a : Addr} {xs : List V} {ds : List PyData} {b : Bool} (g : H a = some (.lst xs)) (its : ItsAt H xs ds) (f : ∀ d ∈ ds, fineD d = true) (n : ds.length ≤ 1000) (e : b = (!ds.isEmpty && ds.all trackB)) : TrsAt H (.ref a) b
inductive AsksB (H : Hp) (n : Int) : V → Bool → Prop
  | no {t : V} {ty : String} (h : Ty7 H t ty) (nl : ty ≠ "list") : AsksB H n t false
  | lst {a : Addr} {xs : List V} {ds : List PyData} {b : Bool} (g : H a = some (.lst xs)) (its : ItsAt H xs ds) (l : ds.length ≤ 1000) (e : b = ds.all (askB n)) : AsksB H n (.ref a) b
section
variable {H H' : Hp} {v : V} {b : Bool}
theorem TrsAt.mono (h : TrsAt H v b) (s : Same H H') : TrsAt H' v b := by
  cases h with
  | no h n => exact .no (h.mono s) n
  | lst g its f n e => exact .lst (s _ _ g) (its.mono s) f n e
theorem AsksB.mono {n : Int} (h : AsksB H n v b) (s : Same H H') : AsksB H' n v b := by
  cases h with
  | no h n => exact .no (h.mono s) n
  | lst g its l e => exact .lst (s _ _ g) (its.mono s) l e
theorem trs_good {a : Addr} {xs : List V} {ts : List Tk} (g : H a = some (.lst xs)) (h : TksAt H xs ts) (ok : ∀ t ∈ ts, t.ok) (ne : ts ≠ []) (n : ts.length ≤ 1000) : TrsAt H (.ref a) true := by
  refine .lst g (tks_its h) (fun d hd => ?_) (by rw [List.length_map]; exact n) ?_
  · obtain ⟨t, _, rfl⟩ := List.mem_map.mp hd
    exact tk_fine t
  · have e1 : (ts.map tkD).all trackB = true := List.all_eq_true.mpr fun d hd => by
      obtain ⟨t, ht, rfl⟩ := List.mem_map.mp hd
      exact tk_ok (ok t ht)
    rw [e1]
    cases ts with
    | nil => exact absurd rfl ne
    | cons t ts => rfl
theorem asks_good {a : Addr} {n : Nat} {xs : List V} {qs : List Ask3} (g : H a = some (.lst xs)) (h : AsksAt H xs qs) (ok : ∀ q ∈ qs, AskOk n q) (l : qs.length ≤ 1000) : AsksB H (n : Int) (.ref a) true := by
  refine .lst g (asks_its h) (by rw [List.length_map]; exact l) ?_
  exact (List.all_eq_true.mpr fun d hd => by
      obtain ⟨q, hq, rfl⟩ := List.mem_map.mp hd
      exact ask_ok (ok q hq)).symm
end
/-- good tracks -/
structure Gt (H : Hp) (t : V) (ts : List Tk) : Prop where
  ex : ∃ a xs, t = .ref a ∧ H a = some (.lst xs) ∧ TksAt H xs ts
  ok : ∀ t ∈ ts, t.ok
  ne : ts ≠ []
  n : ts.length ≤ 1000
structure Ga (H : Hp) (n : Nat) (t : V) (qs : List Ask3) : Prop where
  ex : ∃ a xs, t = .ref a ∧ H a = some (.lst xs) ∧ AsksAt H xs qs
  ok : ∀ q ∈ qs, AskOk n q
  n : qs.length ≤ 1000
/-- how a call ends: 0 told, 1 no track, 2 no ask, 3 no number -/
inductive Way (H : Hp) (t a g : V) : Nat → Prop
  | told {ts : List Tk} {qs : List Ask3} {k : Int} (h : Gt H t ts) (ha : Ga H ts.length a qs) (e : g = .int k) (k0 : 0 ≤ k) : Way H t a g 0
  | track (h : TrsAt H t false) : Way H t a g 1
  | ask {ts : List Tk} (h : Gt H t ts) (ha : AsksB H (ts.length : Int) a false) : Way H t a g 2
  | number {ts : List Tk} {qs : List Ask3} {ty : String} (h : Gt H t ts) (ha : Ga H ts.length a qs) (e : Ty7 H g ty) (n : isN g = false) : Way H t a g 3
section
variable {H H' : Hp} {t a g : V} {w : Nat}
theorem Gt.mono {ts : List Tk} (h : Gt H t ts) (s : Same H H') : Gt H' t ts := ⟨let ⟨a, xs, e, g, k⟩ := h.ex; ⟨a, xs, e, s _ _ g, k.mono s⟩, h.ok, h.ne, h.n⟩
theorem Ga.mono {n : Nat} {qs : List Ask3} (h : Ga H n t qs) (s : Same H H') : Ga H' n t qs := ⟨let ⟨a, xs, e, g, k⟩ := h.ex; ⟨a, xs, e, s _ _ g, k.mono s⟩, h.ok, h.n⟩
theorem Gt.trs {ts : List Tk} (h : Gt H t ts) : TrsAt H t true := by
  obtain ⟨a, xs, rfl, g, k⟩ := h.ex
  exact trs_good g k h.ok h.ne h.n
theorem Ga.asks {n : Nat} {qs : List Ask3} (h : Ga H n t qs) : AsksB H (n : Int) t true := by
  obtain ⟨a, xs, rfl, g, k⟩ := h.ex
  exact asks_good g k h.ok h.n
theorem Way.mono (h : Way H t a g w) (s : Same H H') : Way H' t a g w := by
  cases h with
  | told h ha e k0 => exact .told (h.mono s) (ha.mono s) e k0
  | track h => exact .track (h.mono s)
  | ask h ha => exact .ask (h.mono s) (ha.mono s)
  | number h ha e n => exact .number (h.mono s) (ha.mono s) (e.mono s) n
end
end My
namespace My
open PySem L2
def trackAt (ds : List PyData) (i : Nat) : Bool := match ds[i]? with
  | some d => trackB d
  | none => false
theorem trackAt_of {ds : List PyData} {i : Nat} {d : PyData} (h : ds[i]? = some d) : trackAt ds i = trackB d := by unfold trackAt; rw [h]
theorem at_all {f : PyData → Bool} {g : Nat → Bool} {ds : List PyData} (h : ∀ i d, ds[i]? = some d → g i = f d) : (List.range ds.length).map g = ds.map f := by
  apply List.ext_getElem?
  intro i
  rw [List.getElem?_map, List.getElem?_map]
  by_cases hi : i < ds.length
  · rw [List.getElem?_range hi, List.getElem?_eq_getElem hi]
    show some (g i) = some (f ds[i])
    rw [h i _ (List.getElem?_eq_getElem hi)]
  · rw [List.getElem?_eq_none (by rw [List.length_range]; omega), List.getElem?_eq_none (by omega)]; rfl
theorem trackAt_all {ds : List PyData} : (List.range ds.length).map (fun i => trackAt ds i) = ds.map trackB := at_all fun i d h => trackAt_of h
def askAt (n : Int) (ds : List PyData) (i : Nat) : Bool := match ds[i]? with
  | some d => askB n d
  | none => false
theorem askAt_of {n : Int} {ds : List PyData} {i : Nat} {d : PyData} (h : ds[i]? = some d) : askAt n ds i = askB n d := by unfold askAt; rw [h]
theorem askAt_all {n : Int} {ds : List PyData} : (List.range ds.length).map (fun i => askAt n ds i) = ds.map (askB n) := at_all fun i d h => askAt_of h
theorem fine_shaped {ds : List PyData} (h : ∀ d ∈ ds, fineD d = true) : SeqAt.shaped (.list ds) = true := by
  have f1 : ∀ d : {d // fineD d = true}, d.1.canLay0 = true := fun d => by
    have := d.2; unfold fineD at this; rw [Bool.and_eq_true, Bool.and_eq_true] at this; exact this.1.1
  have f2 : ∀ d : {d // fineD d = true}, d.1.depth ≤ 1 := fun d => by
    have := d.2; unfold fineD at this; rw [Bool.and_eq_true, Bool.and_eq_true] at this; exact of_decide_eq_true this.1.2
  have := shaped_map (m := 1) (g := fun d : {d // fineD d = true} => d.1) (by decide) f1 f2 (ds.attachWith _ h)
  rwa [List.attachWith_map_subtype_val] at this
end My
namespace My
open PySem L2
theorem pick_all {P : V → Prop} {xs : List V} {n : Int} (h0 : 0 ≤ n) (h1 : n < xs.length) (h : ∀ x ∈ xs, P x) : ∃ x, atI xs n = some x ∧ P x := by
  obtain ⟨k, rfl⟩ := Int.eq_ofNat_of_zero_le h0
  have hk : k < xs.length := by omega
  exact ⟨xs[k], atI_nat (List.getElem?_eq_getElem hk), h _ (List.getElem_mem hk)⟩
theorem all_c {P : V → Prop} {x : V} {xs : List V} (h : P x) (t : ∀ y ∈ xs, P y) : ∀ y ∈ x :: xs, P y := List.forall_mem_cons.mpr ⟨h, t⟩
theorem all_n {P : V → Prop} : ∀ y ∈ ([] : List V), P y := fun _ h => by cases h
/-- a bad one that is new, by a test -/
def Bad (f : PyData → Bool) (H0 H : Hp) (v : V) : Prop := ∃ d, It H v d ∧ f d = true ∧ ∀ r, v = .ref r → H0 r = none
section
variable {f : PyData → Bool} {H0 H H' : Hp} {v : V}
theorem bad_fl (d : PyData) (h : flatD d = true) (b : f d = true) : Bad f H0 H (flV d) := ⟨d, .fl d h, b, fun r e => by cases d <;> first | (cases e; done) | cases h⟩
theorem bad_tup {r : Addr} (ds : List PyData) (g : H r = some (.tup (ds.map flV))) (h : ds.all flatD = true) (b : f (.tuple ds) = true) (n : H0 r = none) : Bad f H0 H (.ref r) := ⟨.tuple ds, .tup g h, b, fun r' e => by cases e; exact n⟩
theorem bad_lst {r : Addr} (ds : List PyData) (g : H r = some (.lst (ds.map flV))) (h : ds.all flatD = true) (b : f (.list ds) = true) (n : H0 r = none) : Bad f H0 H (.ref r) := ⟨.list ds, .lst g h, b, fun r' e => by cases e; exact n⟩
theorem Bad.dr {s : Addr} (h : Bad f H0 H v) (hs : Src H0 s) (d : Dr s H H') : Bad f H0 H' v := by
  obtain ⟨x, hi, b, n⟩ := h
  obtain ⟨z, hz⟩ := hs
  exact ⟨x, hi.but d.b (fun e => by rw [n s e] at hz; cases hz), b, n⟩
end
end My
namespace My
open PySem L2
theorem Bad.dr' {f : PyData → Bool} {H0 H H' : Hp} {v : V} {s : Addr} (h : Bad f H0 H v) (hs : Src H0 s) (_ : Src H s) (d : Dr s H H') : Bad f H0 H' v := h.dr hs d
end My
namespace My
open PySem L2
theorem pick_all' {P : V → Prop} {xs : List V} {n : Int} (h : ∀ x ∈ xs, P x) (h0 : 0 ≤ n) (h1 : n < xs.length) : ∃ x, atI xs n = some x ∧ P x := pick_all h0 h1 h
theorem ask_b1 (n : Int) : (!askB n (.tuple [.int 0, .int (n + 1), .int 5])) = true := by
  show (!(decide ((0 : Int) ≤ 0) && decide (1 ≤ n + 1) && decide (0 + (n + 1) ≤ n) && isN (.int 5))) = true
  rw [decide_eq_false (p := 0 + (n + 1) ≤ n) (by omega)]; simp
theorem ask_b2 (n : Int) : (!askB n (.tuple [.int n, .int 1, .int 5])) = true := by
  show (!(decide (0 ≤ n) && decide ((1 : Int) ≤ 1) && decide (n + 1 ≤ n) && isN (.int 5))) = true
  rw [decide_eq_false (p := n + 1 ≤ n) (by omega)]; simp
end My

/-! ### copies that stay -/
namespace My
open PySem L2
def Plain (x : V) : Prop := flatB x = true ∨ ∃ r, x = .ref r
theorem Ty7.but {H H' : Hp} {v : V} {t : String} {a : Addr} (h : Ty7 H v t) (b : But a H H') (n : v ≠ .ref a) : Ty7 H' v t := by
  cases h with
  | non => exact .non
  | bl b => exact .bl b
  | int i => exact .int i
  | str i => exact .str i
  | lst h => exact .lst (b.app (fun e => n (by rw [e])) h)
  | tup h => exact .tup (b.app (fun e => n (by rw [e])) h)
  | dK h => exact .dK (b.app (fun e => n (by rw [e])) h)
theorem Ty7.plain {H : Hp} {v : V} {t : String} (h : Ty7 H v t) : Plain v := by
  cases h <;> first | exact .inl rfl | exact .inr ⟨_, rfl⟩
inductive KindV (H : Hp) : V → Prop
  | no {v : V} {ty : String} (h : Ty7 H v ty) (n : ty ≠ "list") : KindV H v
  | lst {a : Addr} {xs : List V} (g : H a = some (.lst xs)) (p : ∀ x ∈ xs, Plain x) (l : xs.length ≤ 2000) : KindV H (.ref a)
theorem KindV.mono {H H' : Hp} {v : V} (h : KindV H v) (s : Same H H') : KindV H' v := by
  cases h with
  | no h n => exact .no (h.mono s) n
  | lst g p l => exact .lst (s _ _ g) p l
theorem KindV.but {H H' : Hp} {v : V} {a : Addr} (h : KindV H v) (b : But a H H') (n : v ≠ .ref a) : KindV H' v := by
  cases h with
  | no h k => exact .no (h.but b n) k
  | lst g p l => exact .lst (b.app (fun e => n (by rw [e])) g) p l
/-- x is t, or a copy of it; none of them is p -/
def Cp (H : Hp) (p : Addr) (x t : V) : Prop := x = t ∨ ∃ a b xs, x = .ref a ∧ t = .ref b ∧ a ≠ p ∧ b ≠ p ∧ H a = some (.lst xs) ∧ H b = some (.lst xs)
theorem Cp.mono {H H' : Hp} {p : Addr} {x t : V} (h : Cp H p x t) (s : Same H H') : Cp H' p x t := by
  rcases h with h | ⟨a, b, xs, e1, e2, n1, n2, g1, g2⟩
  · exact .inl h
  · exact .inr ⟨a, b, xs, e1, e2, n1, n2, s _ _ g1, s _ _ g2⟩
theorem Cp.but {H H' : Hp} {p : Addr} {x t : V} (h : Cp H p x t) (s : But p H H') : Cp H' p x t := by
  rcases h with h | ⟨a, b, xs, e1, e2, n1, n2, g1, g2⟩
  · exact .inl h
  · exact .inr ⟨a, b, xs, e1, e2, n1, n2, s.app n1 g1, s.app n2 g2⟩
theorem plain_eq {K : PySem.W.Frag} {H : Hp} {n : Nat} {x : V} (h : Plain x) : EqV K H (n + 1) x x := by
  rcases h with h | ⟨r, rfl⟩
  · exact .inl ⟨rfl, h⟩
  · exact .inr (.inl ⟨r, rfl, rfl⟩)
theorem plain_pair {K : PySem.W.Frag} {H : Hp} {n : Nat} : ∀ {xs : List V}, (∀ x ∈ xs, Plain x) → Paired (EqV K H (n + 1)) xs xs
  | [], _ => .nil
  | x :: xs, h => .cons (plain_eq (h x List.mem_cons_self)) (plain_pair fun y hy => h y (List.mem_cons_of_mem _ hy))
theorem KindV.plain {H : Hp} {v : V} (h : KindV H v) : Plain v := by
  cases h with
  | no h n => exact h.plain
  | lst g p l => exact .inr ⟨_, rfl⟩
theorem cp_eq {K : PySem.W.Frag} {H : Hp} {p : Addr} {x t : V} (h : Cp H p x t) (k : KindV H t) : EqV K H 2 x t := by
  rcases h with rfl | ⟨a, b, xs, rfl, rfl, n1, n2, g1, g2⟩
  · exact plain_eq k.plain
  · have pl : ∀ x ∈ xs, Plain x := by
      cases k with
      | no h n =>
        cases h with
        | lst h => exact absurd rfl n
        | tup h => rw [g2] at h; cases h
        | dK h => rw [g2] at h; cases h
      | lst g p l =>
        rw [g2] at g; cases g
        exact p
    exact .inr (.inr (.inl ⟨a, b, xs, xs, rfl, rfl, sqL g1, sqL g2, plain_pair pl⟩))
theorem tks_plain {H : Hp} {us : List V} {ts : List Tk} (h : TksAt H us ts) : ∀ x ∈ us, Plain x := (tks_its h).kind
theorem asks_plain {H : Hp} {us : List V} {qs : List Ask3} (h : AsksAt H us qs) : ∀ x ∈ us, Plain x := (asks_its h).kind
/-- the gap, told or none -/
def Gw (H : Hp) (g : V) (w : Nat) : Prop := (w = 0 ∧ ∃ k : Int, g = .int k ∧ 0 ≤ k) ∨ (w = 3 ∧ ∃ ty, Ty7 H g ty ∧ isN g = false)
theorem Gw.way {H : Hp} {g t a : V} {w : Nat} {ts : List Tk} {qs : List Ask3} (h : Gw H g w) (ht : Gt H t ts) (ha : Ga H ts.length a qs) : Way H t a g w := by
  rcases h with ⟨rfl, k, e, k0⟩ | ⟨rfl, ty, e, n⟩
  · exact .told ht ha e k0
  · exact .number ht ha e n
theorem all_set {f : PyData → Bool} {ds : List PyData} {j : Nat} {d : PyData} (hj : j < ds.length) (h : f d = false) : false = (!(ds.set j d).isEmpty && (ds.set j d).all f) := by
  have : (ds.set j d).all f = false := List.all_eq_false.mpr ⟨d, List.mem_of_getElem? (i := j) (List.getElem?_set_self hj), by rw [h]; exact Bool.false_ne_true⟩
  rw [this, Bool.and_false]
theorem all_ins {f : PyData → Bool} {ds : List PyData} {j : Nat} {d : PyData} (h : f d = false) : false = (ds.take j ++ [d] ++ ds.drop j).all f :=
  (List.all_eq_false.mpr ⟨d, by simp, by rw [h]; exact Bool.false_ne_true⟩).symm
theorem bad_fine {d : PyData} (h : (fineD d && !trackB d) = true) : fineD d = true ∧ trackB d = false := by
  rw [Bool.and_eq_true] at h
  exact ⟨h.1, by simpa using h.2⟩
end My

namespace My
open PySem PySem.Spec PyProof.Rows L2
section
variable {P : Program} {w : World} {K : PySem.W.Frag} {mg : Str → Option Value} {base : Heap}
def sp_is_whole : Sp := fun vs H Q _ => ∃ (x : V) (t : String), vs = [x] ∧ Ty7 H x t ∧ Q (.bl (isI x)) H
theorem ok_is_whole (T : Tx K mg) : FnOk P w K mg base CX0 1 T.d_is_whole.f T.d_is_whole.fd ["thing"] (sp_is_whole) := by
  refine T.d_is_whole.F.ok sc_is_whole (fun vs H Q E h => ?_) (fun cdv A outer s H vs Q E hr h => ?_)
  · obtain ⟨x, t, rfl, _⟩ := h
    rfl
  · obtain ⟨x, t, rfl, ht, k⟩ := h
    refine ⟨_, (pss_one (ps_ret (pe_and (pe_callB is_int (by rfl) T.b_isinstance (by decide +kernel) (pa_cons (pv 0) (pa_cons (pe_bltn (v := .ty "int") (by rfl) T.b_int (by decide +kernel) rfl) pa_nil))) (pe_one (pe_not (pe_callB is_bool (by rfl) T.b_isinstance (by decide +kernel) (pa_cons (pv 0) (pa_cons (pe_bltn (v := .ty "bool") (by rfl) T.b_bool (by decide +kernel) rfl) pa_nil)))))))), ?_⟩
    tm_at "rds"
    refine ite2 (fun e => ?_) (fun e => ?_)
    · tm_at "rds"
      rw [isI_bool e]
      exact k
    · rw [isI_no e]
      exact k
end
end My
namespace My
open PySem PySem.Spec PyProof.Rows L2
section
variable {P : Program} {w : World} {K : PySem.W.Frag} {mg : Str → Option Value} {base : Heap}
def sp_is_count : Sp := fun vs H Q _ => ∃ (x : V) (t : String), vs = [x] ∧ Ty7 H x t ∧ Q (.bl (isN x)) H
theorem ok_is_count (T : Tx K mg) : FnOk P w K mg base CX0 2 T.d_is_count.f T.d_is_count.fd ["thing"] (sp_is_count) := by
  refine T.d_is_count.F.ok sc_is_count (fun vs H Q E h => ?_) (fun cdv A outer s H vs Q E hr h => ?_)
  · obtain ⟨x, t, rfl, _⟩ := h
    rfl
  · obtain ⟨x, t, rfl, ht, k⟩ := h
    refine ⟨_, (pss_one (ps_ret (pe_and (pe_call (ok_is_whole T) (hr.mono (by decide)) (by rfl) T.d_is_whole.g T.d_is_whole.F.kp T.d_is_whole.b .nil pass0 (pa_cons (pv 0) pa_nil)) (pe_one (pe_cmpR op_ge (pv 0) pe_int (nomark _)))))), ?_⟩
    refine ⟨_, rfl, x, t, rfl, ht, ?_⟩
    tm_at "rds"
    refine ite2 (fun e => ?_) (fun e => ?_)
    · obtain ⟨i, rfl⟩ := isI_of e
      tm_at "rds"
      exact k
    · have : false = isN x := by cases x <;> simp_all [isI, isN]
      rw [this]
      exact k
end
end My
namespace My
open PySem PySem.Spec PyProof.Rows L2
section
variable {P : Program} {w : World} {K : PySem.W.Frag} {mg : Str → Option Value} {base : Heap}
def sp_is_share : Sp := fun vs H Q _ => ∃ (x : V) (t : String), vs = [x] ∧ Ty7 H x t ∧ Q (.bl (decide (t = "tuple"))) H
theorem ok_is_share (T : Tx K mg) : FnOk P w K mg base CX0 1 T.d_is_share.f T.d_is_share.fd ["track"] (sp_is_share) := by
  refine T.d_is_share.F.ok sc_is_share (fun vs H Q E h => ?_) (fun cdv A outer s H vs Q E hr h => ?_)
  · obtain ⟨x, t, rfl, _⟩ := h
    rfl
  · obtain ⟨x, t, rfl, ht, k⟩ := h
    refine ⟨_, (pss_one (ps_ret (pe_callB is_tuple (by rfl) T.b_isinstance (by decide +kernel) (pa_cons (pv 0) (pa_cons (pe_bltn (v := .ty "tuple") (by rfl) T.b_tuple (by decide +kernel) rfl) pa_nil))))), ?_⟩
    tm_at "rds"
    exact k
end
end My
namespace My
open PySem PySem.Spec PyProof.Rows L2
section
variable {P : Program} {w : World} {K : PySem.W.Frag} {mg : Str → Option Value} {base : Heap}
def sp_is_track : Sp := fun vs H Q _ => ∃ (x : V) (d : PyData), vs = [x] ∧ It H x d ∧ fineD d = true ∧ Q (.bl (trackB d)) H
theorem ok_is_track (T : Tx K mg) : FnOk P w K mg base CX0 3 T.d_is_track.f T.d_is_track.fd ["thing"] (sp_is_track) := by
  refine T.d_is_track.F.ok sc_is_track (fun vs H Q E h => ?_) (fun cdv A outer s H vs Q E hr h => ?_)
  · obtain ⟨x, t, rfl, _⟩ := h
    rfl
  · obtain ⟨x, d, rfl, ht, ok, k⟩ := h
    refine ⟨_, (pss_cons (ps_if (pt_val (pe_call (ok_is_share T) (hr.mono (by decide)) (by rfl) T.d_is_share.g T.d_is_share.F.kp T.d_is_share.b .nil pass0 (pa_cons (pv 0) pa_nil)))
      (pss_one (ps_ret (pe_and (pe_cmpR op_eq (pe_callB (call_lenK (K := K) rfl) (by rfl) T.b_len (by decide +kernel) (pa_cons (pv 0) pa_nil)) pe_int (nomark _)) (pe_and (pe_cmpR op_eq (pe_ix (ix_tupK (K := K) rfl) (pv 0) pe_int (fun _ _ => rfl)) pe_str (nomark _)) (pe_and (pe_call (ok_is_whole T) (hr.mono (by decide)) (by rfl) T.d_is_whole.g T.d_is_whole.F.kp T.d_is_whole.b .nil pass0 (pa_cons (pe_ix (ix_tupK (K := K) rfl) (pv 0) pe_int (fun _ _ => rfl)) pa_nil)) (pe_one (pe_cmpR op_ge (pe_ix (ix_tupK (K := K) rfl) (pv 0) pe_int (fun _ _ => rfl)) pe_int (nomark _))))))))
      pss_nil)
      (pss_one (ps_ret (pe_or (pe_call (ok_is_count T) (hr.mono (by decide)) (by rfl) T.d_is_count.g T.d_is_count.F.kp T.d_is_count.b .nil pass0 (pa_cons (pv 0) pa_nil)) (pe_one (pe_and (pe_callB is_str (by rfl) T.b_isinstance (by decide +kernel) (pa_cons (pv 0) (pa_cons (pe_bltn (v := .ty "str") (by rfl) T.b_str (by decide +kernel) rfl) pa_nil))) (pe_one (pe_cmpR op_eq (pv 0) pe_str (nomark _))))))))), ?_⟩
    have ht7 := ht.t7
    cases ht with
    | fl d f =>
      cases d with
      | none => tm_at "rzs"; exact k
      | bool b => tm_at "rzs"; exact k
      | int n =>
        tm_at "rzs"
        refine ite2 (fun e => ?_) (fun e => ?_)
        · have e : decide (0 ≤ n) = true := e
          have ek : trackB (.int n) = true := by show (decide (0 ≤ n) || _) = true; rw [e]; rfl
          rw [ek] at k
          tm_at "rzs"
          exact k
        · have e : decide (0 ≤ n) = false := Bool.eq_false_iff.mpr e
          have ek : trackB (.int n) = false := by show (decide (0 ≤ n) || _) = false; rw [e]; rfl
          rw [ek] at k
          tm_at "rzs"
          exact k
      | str s =>
        tm_at "rzs"
        exact k
      | list _ => cases f
      | tuple _ => cases f
      | dict _ => cases f
    | lst g f =>
      tm_at "rzs"
      exact k
    | @tup r ds g f =>
      tm_at "rzs"
      match ds, g, f, ok, k with
      | [], g, f, ok, k => 
        tm_at "rzs"
        exact k
      | [a], g, f, ok, k =>
        tm_at "rzs"
        exact k
      | [a, b], g, f, ok, k =>
        have fb : flatD b = true := by
          rw [List.all_cons, List.all_cons, Bool.and_eq_true, Bool.and_eq_true] at f
          exact f.2.1
        have hb7 := fl_t7 (H := H) fb
        cases a with
        | str s =>
          tm_at "rzs"
          by_cases e : s = "share"
          · subst e
            refine iteT' (decide_eq_true rfl) ?_
            cases b with
            | int j =>
              tm_at "rzs"
              exact k
            | list _ => cases fb
            | tuple _ => cases fb
            | dict _ => cases fb
            | _ => tm_at "rzs"; exact k
          · have e1 : decide (flV (.str s) = V.str "share") = false := decide_eq_false fun z => e (V.str.inj z)
            refine iteF' e1 ?_
            have ek : trackB (.tuple [.str s, b]) = false := by show (decide (flV (.str s) = V.str "share") && _) = false; rw [e1]; rfl
            rw [ek] at k
            exact k
        | _ => exact absurd ok (by unfold fineD strD; simp)
      | a :: b :: c :: ds, g, f, ok, k =>
        tm_at "rzs"
        exact k
end
end My
namespace My
open PySem PySem.Spec PyProof.Rows L2
section
variable {P : Program} {w : World} {K : PySem.W.Frag} {mg : Str → Option Value} {base : Heap}
def sp_are_tracks : Sp := fun vs H Q _ => ∃ (t : V) (b : Bool), vs = [t] ∧ TrsAt H t b ∧ ∀ H', Same H H' → Q (.bl b) H'
theorem ok_are_tracks (T : Tx K mg) : FnOk P w K mg base CX0 4 T.d_are_tracks.f T.d_are_tracks.fd ["thing"] (sp_are_tracks) := by
  refine T.d_are_tracks.F.ok sc_are_tracks (fun vs H Q E h => ?_) (fun cdv A outer s H vs Q E hr h => ?_)
  · obtain ⟨a, xs, rfl, _⟩ := h
    rfl
  · obtain ⟨t, b, rfl, h, k⟩ := h
    refine ⟨_, (pss_one (ps_ret (pe_and (pe_callB is_list (by rfl) T.b_isinstance (by decide +kernel) (pa_cons (pv 0) (pa_cons (pe_bltn (v := .ty "list") (by rfl) T.b_list (by decide +kernel) rfl) pa_nil))) (pe_and (pe_cmpR (op_neDK (K := K) hr.units rfl) (pv 0) (pe_lstA pa_nil) (nomark _)) (pe_one (pe_callB (cr_allK (K := K) rfl rfl) (by rfl) T.b_all (by decide +kernel) (pa_cons (pe_lc (own := [("track", 1)]) (g := gName 1) (by rfl) sc_are_tracks.nd (pi_listK (K := K) rfl (pv 0)) (blkOk_by (own := [("track", 1)]) (N := N_are_tracks) (sc := defScope s_are_tracks) (by decide +kernel)) (fun _ _ _ _ _ => (pg_name (i := 1) sc_are_tracks.nd rfl (Or.inl rfl))) (fun _ _ _ _ _ => pts_nil) (fun _ _ _ _ _ => (pe_call (ok_is_track T) (hr.mono (by decide)) (by rfl) T.d_is_track.g T.d_is_track.F.kp T.d_is_track.b .nil pass0 (pa_cons (pv 1) pa_nil)))) pa_nil))))))), ?_⟩
    cases h with
    | no h n =>
      tm_at "rzs"
      refine iteF' (decide_eq_false n) ?_
      exact k _ (Same.refl _)
    | @lst a xs ds b g its fine n e =>
      tm_at "rzs"
      intro p H1 f1 s1 g1
      have ha1 := s1 _ _ g
      refine ⟨_, _, .lst (sqL ha1) (its.mono s1).dp, .lst (xs := []) (sqL g1) .nil, fine_shaped fine, by decide +kernel, ?_⟩
      cases ds with
      | nil =>
        subst e
        tm_at "rzs"
        exact k _ s1
      | cons d ds =>
      have e0 : PyData.eqv (.list (d :: ds)) (.list []) = false := by simp [PyData.eqv, PyData.eqvAll]
      rw [e0]
      tm_at "rzs"
      have lx := its.1
      refine ⟨⟨_, sqL ha1⟩, fun D hD => lcLx (K := K) (xs := xs) (fun i => .bl (trackAt (d :: ds) i)) hD (sqL ha1) (by omega) (fun i x H2 Kt Kf hx s2 kk => ?_) (fun H2 s2 g2 => ?_)⟩
      · obtain ⟨t, ht, hat⟩ := its.at' hx
        have hat2 := hat.mono (s1.trans s2)
        have okt := fine t (List.mem_of_getElem? ht)
        rw [trackAt_of ht] at kk
        tm_at "rzs"
        exact kk _ (Same.refl _)
      rw [bls, lx, trackAt_all] at g2
      tm_at "rzs"
      refine ⟨D, _, rfl, sqL g2, ?_⟩
      have e2 : ((d :: ds).map trackB).all id = b := by rw [e, List.all_map]; rfl
      rw [e2]
      exact k _ (s1.trans s2)
end
end My
namespace My
open PySem PySem.Spec PyProof.Rows L2
section
variable {P : Program} {w : World} {K : PySem.W.Frag} {mg : Str → Option Value} {base : Heap}
def sp_is_stretch : Sp := fun vs H Q _ => ∃ (a b : V) (ta tb : String) (n : Int), vs = [a, b, .int n] ∧ Ty7 H a ta ∧ Ty7 H b tb ∧ Q (.bl (stretchB n a b)) H
theorem ok_is_stretch (T : Tx K mg) : FnOk P w K mg base CX0 3 T.d_is_stretch.f T.d_is_stretch.fd ["first", "many", "count"] (sp_is_stretch) := by
  refine T.d_is_stretch.F.ok sc_is_stretch (fun vs H Q E h => ?_) (fun cdv A outer s H vs Q E hr h => ?_)
  · obtain ⟨a, b, ta, tb, n, rfl, _⟩ := h
    rfl
  · obtain ⟨a, b, ta, tb, n, rfl, h1, h2, k⟩ := h
    refine ⟨_, (pss_one (ps_ret (pe_and (pe_call (ok_is_count T) (hr.mono (by decide)) (by rfl) T.d_is_count.g T.d_is_count.F.kp T.d_is_count.b .nil pass0 (pa_cons (pv 0) pa_nil)) (pe_and (pe_call (ok_is_whole T) (hr.mono (by decide)) (by rfl) T.d_is_whole.g T.d_is_whole.F.kp T.d_is_whole.b .nil pass0 (pa_cons (pv 1) pa_nil)) (pe_and (pe_cmpR op_ge (pv 1) pe_int (nomark _)) (pe_one (pe_cmpR op_le (pe_op op_add (pv 0) (pv 1)) (pv 2) (nomark _)))))))), ?_⟩
    tm_at "rzs"
    cases a with
    | int f =>
      refine ite2 (fun e => ?_) (fun e => ?_)
      · have e : decide (0 ≤ f) = true := e
        tm_at "rzs"
        cases b with
        | int m =>
          tm_at "rzs"
          refine ite2 (fun e2 => ?_) (fun e2 => ?_)
          · have e2 : decide (1 ≤ m) = true := e2
            tm_at "rzs"
            have ek : stretchB n (.int f) (.int m) = decide (f + m ≤ n) := by show (decide (0 ≤ f) && decide (1 ≤ m) && _) = _; rw [e, e2]; rfl
            rw [ek] at k
            exact k
          · have e2 : decide (1 ≤ m) = false := Bool.eq_false_iff.mpr e2
            have ek : stretchB n (.int f) (.int m) = false := by show (decide (0 ≤ f) && decide (1 ≤ m) && _) = _; rw [e2, Bool.and_false]; rfl
            rw [ek] at k
            first | exact k | (dsimp only; rw [e2]; exact k)
        | _ => tm_at "rzs"; exact k
      · have e : decide (0 ≤ f) = false := Bool.eq_false_iff.mpr e
        have ek : stretchB n (.int f) b = false := by cases b <;> first | rfl | (show (decide (0 ≤ f) && decide (1 ≤ _) && _) = _; rw [e]; rfl)
        rw [ek] at k
        exact k
    | _ =>
      tm_at "rzs"
      exact k
end
end My
namespace My
open PySem PySem.Spec PyProof.Rows L2
section
variable {P : Program} {w : World} {K : PySem.W.Frag} {mg : Str → Option Value} {base : Heap}
def sp_is_ask : Sp := fun vs H Q _ => ∃ (x : V) (d : PyData) (n : Int), vs = [x, .int n] ∧ It H x d ∧ Q (.bl (askB n d)) H
theorem ok_is_ask (T : Tx K mg) : FnOk P w K mg base CX0 4 T.d_is_ask.f T.d_is_ask.fd ["thing", "count"] (sp_is_ask) := by
  refine T.d_is_ask.F.ok sc_is_ask (fun vs H Q E h => ?_) (fun cdv A outer s H vs Q E hr h => ?_)
  · obtain ⟨x, q, n, rfl, _⟩ := h
    rfl
  · obtain ⟨x, d, n, rfl, ht, k⟩ := h
    refine ⟨_, (pss_cons (ps_if (PW.pt (pw_or (pt_not (pt_val (pe_callB is_tuple (by rfl) T.b_isinstance (by decide +kernel) (pa_cons (pv 0) (pa_cons (pe_bltn (v := .ty "tuple") (by rfl) T.b_tuple (by decide +kernel) rfl) pa_nil))))) (pw_or1 (pt_cmpR op_ne (pe_callB (call_lenK (K := K) rfl) (by rfl) T.b_len (by decide +kernel) (pa_cons (pv 0) pa_nil)) pe_int (nomark _)))))
      (pss_one (ps_ret pe_bl))
      pss_nil)
      (pss_cons (ps_asg (pv 0) (pg_tup (by rfl) (pgs_cons (pg_name (i := 2) sc_is_ask.nd rfl (Or.inl rfl)) (pgs_cons (pg_name (i := 3) sc_is_ask.nd rfl (Or.inl rfl)) (pgs_cons (pg_name (i := 4) sc_is_ask.nd rfl (Or.inl rfl)) pgs_nil)))))
      (pss_one (ps_ret (pe_and (pe_call (ok_is_stretch T) (hr.mono (by decide)) (by rfl) T.d_is_stretch.g T.d_is_stretch.F.kp T.d_is_stretch.b .nil pass0 (pa_cons (pv 2) (pa_cons (pv 3) (pa_cons (pv 1) pa_nil)))) (pe_one (pe_call (ok_is_count T) (hr.mono (by decide)) (by rfl) T.d_is_count.g T.d_is_count.F.kp T.d_is_count.b .nil pass0 (pa_cons (pv 4) pa_nil)))))))), ?_⟩
    have ht7 := ht.t7
    cases ht with
    | fl d f =>
      cases d with
      | list _ => cases f
      | tuple _ => cases f
      | dict _ => cases f
      | _ => tm_at "rzs"; exact k
    | lst g f =>
      tm_at "rzs"
      exact k
    | @tup r ds g f =>
      match ds, g, f, k, ht7 with
      | [], g, f, k, ht7 => 
        tm_at "rzs"
        exact k
      | [a], g, f, k, ht7 =>
        tm_at "rzs"
        exact k
      | [a, b], g, f, k, ht7 =>
        tm_at "rzs"
        exact k
      | [a, b, c], g, f, k, ht7 =>
        have f3 : flatD a = true ∧ flatD b = true ∧ flatD c = true := by
          simpa [Bool.and_eq_true] using f
        have a7 := fl_t7 (H := H) f3.1
        have b7 := fl_t7 (H := H) f3.2.1
        have c7 := fl_t7 (H := H) f3.2.2
        tm_at "rzs"
        refine ⟨_, _, rfl, sqT g, rfl, ?_⟩
        refine ⟨_, _, rfl, _, _, rfl, _, _, rfl, rfl, ?_⟩
        tm_at "rzs"
        refine ⟨_, _, _, _, n, rfl, a7, b7, ?_⟩
        have ek : askB n (.tuple [a, b, c]) = (stretchB n (flV a) (flV b) && isN (flV c)) := rfl
        rw [ek] at k
        tm_at "rds"
        refine ite2 (fun e => ?_) (fun e => ?_)
        · have e : stretchB n (flV a) (flV b) = true := e
          rw [e] at k
          tm_at "rzs"
          exact k
        · have e : stretchB n (flV a) (flV b) = false := Bool.eq_false_iff.mpr e
          rw [e] at k
          exact k
      | a :: b :: c :: e :: ds, g, f, k, ht7 =>
        tm_at "rzs"
        have k : Q (.bl false) H := k
        exact k
end
end My
namespace My
open PySem PySem.Spec PyProof.Rows L2
section
variable {P : Program} {w : World} {K : PySem.W.Frag} {mg : Str → Option Value} {base : Heap}
def sp_told_cells : Sp := fun vs H Q _ => ∃ (x : V) (t : Tk), vs = [x] ∧ TkAt H x t ∧ Q (.int t.told) H
theorem ok_told_cells (T : Tx K mg) : FnOk P w K mg base CX0 2 T.d_told_cells.f T.d_told_cells.fd ["track"] (sp_told_cells) := by
  refine T.d_told_cells.F.ok sc_told_cells (fun vs H Q E h => ?_) (fun cdv A outer s H vs Q E hr h => ?_)
  · obtain ⟨x, t, rfl, _⟩ := h
    rfl
  · obtain ⟨x, t, rfl, ht, k⟩ := h
    refine ⟨_, (pss_cons (ps_if (pt_val (pe_call (ok_is_whole T) (hr.mono (by decide)) (by rfl) T.d_is_whole.g T.d_is_whole.F.kp T.d_is_whole.b .nil pass0 (pa_cons (pv 0) pa_nil)))
      (pss_one (ps_ret (pv 0)))
      pss_nil)
      (pss_one (ps_ret pe_int))), ?_⟩
    cases t with
    | cells n =>
      have e : x = .int n := ht
      subst e
      tm_at "rzs"
      exact k
    | fit =>
      have e : x = .str "fit" := ht
      subst e
      tm_at "rzs"
      exact k
    | share j =>
      obtain ⟨r, rfl, g⟩ := ht
      tm_at "rzs"
      exact k
end
end My
namespace My
open PySem PySem.Spec PyProof.Rows L2
section
variable {P : Program} {w : World} {K : PySem.W.Frag} {mg : Str → Option Value} {base : Heap}
def sp_grow_for (K : PySem.W.Frag) : Sp := fun vs H Q _ => ∃ (TT S G A : Addr) (xs : List V) (ts : List Tk) (ss g : List Int) (f m : Nat) (wanted : Int), vs = [.ref TT, .ref S, .ref G, .ref A] ∧ (SqL K H TT xs ∨ SqT K H TT xs) ∧ TksAt H xs ts ∧ TT ≠ G ∧ S ≠ G ∧ H S = some (.lst (ss.map .int)) ∧ H G = some (.lst (g.map .int)) ∧
  H A = some (.tup [.int (f : Int), .int (m : Int), .int wanted]) ∧ ss.length = ts.length ∧ g.length = ts.length ∧ 1 ≤ m ∧ f + m ≤ ts.length ∧ ts.length ≤ 1000 ∧ (∀ z ∈ g, 0 ≤ z) ∧
  ∀ H', But G H H' → H' G = some (.lst ((growM ts.length ts ss g f m wanted).map .int)) → Q .non H'
theorem ok_grow_for (T : Tx K mg) : FnOk P w K mg base CX0 2 T.d_grow_for.f T.d_grow_for.fd ["tracks", "sizes", "grown", "ask"] (sp_grow_for K) := by
  refine T.d_grow_for.F.ok sc_grow_for (fun vs H Q E h => ?_) (fun cdv A outer s H vs Q E hr h => ?_)
  · obtain ⟨TT, S, G, A, xs, ts, ss, g, f, m, wanted, rfl, _⟩ := h
    rfl
  · obtain ⟨TT, S, G, A, xs, ts, ss, g, f, m, wanted, rfl, hT, hts, nTG, nSG, hS, hG, hA, ls, lg, hm, hfm, hn, hg, k⟩ := h
    refine ⟨_, (pss_cons (ps_asg (pv 3) (pg_tup (by rfl) (pgs_cons (pg_name (i := 4) sc_grow_for.nd rfl (Or.inl rfl)) (pgs_cons (pg_name (i := 5) sc_grow_for.nd rfl (Or.inl rfl)) (pgs_cons (pg_name (i := 6) sc_grow_for.nd rfl (Or.inl rfl)) pgs_nil)))))
      (pss_cons (ps_setLc (i := 8) (own := [("at", 7)]) (g := gName 7) (by rfl) sc_grow_for.nd rfl rfl (sw_true rfl rfl rfl (by decide +kernel)) (pi_range2 (by rfl) T.b_range (pa_cons (pv 4) (pa_cons (pe_op op_add (pv 4) (pv 5)) pa_nil))) (blkOk_by (own := [("at", 7)]) (N := N_grow_for) (sc := defScope s_grow_for) (by decide +kernel)) (fun _ _ _ _ _ => (pg_name (i := 7) sc_grow_for.nd rfl (Or.inl rfl))) (fun _ _ _ _ _ => (pts_one (pt_not (pt_val (pe_call (ok_is_whole T) (hr.mono (by decide)) (by rfl) T.d_is_whole.g T.d_is_whole.F.kp T.d_is_whole.b .nil pass0 (pa_cons (pe_ix (ix_seqK (K := K) rfl) (pv 0) (pv 7) (fun _ _ => rfl)) pa_nil)))))) (fun _ _ _ _ _ => (pv 7)))
      (pss_cons (ps_set (i := 9) sc_grow_for.nd rfl (Or.inl rfl) (pe_op op_sub (pv 6) (pe_callB (cr_sumK (K := K) rfl rfl) (by rfl) T.b_sum (by decide +kernel) (pa_cons (pe_slice (sl_listK (K := K) rfl) (pv 1) (po_some (pv 4)) (po_some (pe_op op_add (pv 4) (pv 5)))) pa_nil))))
      (pss_cons (ps_if (pt_cmpR op_le (pv 9) pe_int (nomark _))
      (pss_one ps_retN)
      pss_nil)
      (pss_one (ps_for PassesOwn.never (by rfl) (pi_enumK (K := K) rfl (by rfl) T.b_enumerate (pa_cons (pv 8) pa_nil)) (pg_tup (by rfl) (pgs_cons (pg_name (i := 10) sc_grow_for.nd rfl (Or.inl rfl)) (pgs_cons (pg_name (i := 7) sc_grow_for.nd rfl (Or.inl rfl)) pgs_nil)))
      (pss_cons (ps_set (i := 11) sc_grow_for.nd rfl (Or.inl rfl) (pe_op op_sub (pe_op op_fdivW (pe_op op_mul (pv 9) (pe_op op_add (pv 10) pe_int)) (pe_callB (call_lenK (K := K) rfl) (by rfl) T.b_len (by decide +kernel) (pa_cons (pv 8) pa_nil))) (pe_op op_fdivW (pe_op op_mul (pv 9) (pv 10)) (pe_callB (call_lenK (K := K) rfl) (by rfl) T.b_len (by decide +kernel) (pa_cons (pv 8) pa_nil)))))
      (pss_one (ps_asg (pe_callB (call_max2 rfl) (by rfl) T.b_max (by decide +kernel) (pa_cons (pe_ix (ix_listK (K := K) rfl) (pv 2) (pv 7) (fun _ _ => rfl)) (pa_cons (pv 11) pa_nil))) (pg_sub (pv 2) (pv 7) set_listA)))))))))), ?_⟩
    tm_at "rzs"
    refine ⟨_, _, rfl, sqT hA, rfl, ?_⟩
    refine ⟨_, _, rfl, _, _, rfl, _, _, rfl, rfl, ?_⟩
    show tSeq _ _ _ [some (.ref TT), some (.ref S), some (.ref G), some (.ref A), some (.int (f : Int)), some (.int (m : Int)), some (.int wanted), none, none, none, none, none] H
    have hT : SqE K H TT xs := hT
    have em : (((f : Int) + (m : Int)) - (f : Int)).toNat = m := by omega
    refine ⟨_, rfl, _, rfl, _, rfl, _, _, rfl, rfl, _, _, rfl, ⟨by omega, by omega, by omega, by omega⟩, fun D hD => lcRf (n := (((f : Int) + (m : Int)) - (f : Int)).toNat) (fun i => V.int ((f : Int) + (i : Int))) (fun i => tkF ts (f + i)) hD (by omega) (fun i H1 Kt Kf hi s1 yes no => ?_) (fun H1 s1 g1 => ?_)⟩
    · obtain ⟨t, ht⟩ : ∃ t, ts[f + i]? = some t := ⟨_, List.getElem?_eq_getElem (by omega)⟩
      obtain ⟨v, hv, hat⟩ := (hts.mono s1).at ht
      have hT1 := hT.same s1
      have t7 := hat.t7
      have hfr : tkF ts (f + i) = t.free := by unfold tkF; rw [ht]
      have hI := hat.isI
      rw [hfr] at yes no
      tm_at "rzs"
      refine ixE hT1 (atI_add hv) ?_
      tm_at "rzs"
      rw [hI]
      cases e : t.free with
      | true =>
        refine iteT' rfl ?_
        tm_at "rzs"
        exact yes e _ (Same.refl _)
      | false =>
        refine iteF' rfl ?_
        exact no e _ (Same.refl _)
    rw [em, free_nats] at g1
    have nDG : D ≠ G := (ne_of_none hG hD).symm
    have lfr : (freeL ts f m).length ≤ m := by
      unfold freeL
      exact Nat.le_trans (List.length_filter_le _ _) (by rw [List.length_map, List.length_range]; exact Nat.le_refl _)
    tm_at "rzs"
    refine ⟨S, _, rfl, sqL (s1 _ _ hS), fun p2 H2 f2 s2 g2 => ?_⟩
    rw [cut_ints] at g2
    tm_at "rzs"
    refine ⟨p2, _, rfl, sqL g2, ?_⟩
    have s02 := s1.trans s2
    have gD2 := s2 _ _ g1
    have gG2 := s02 _ _ hG
    obtain ⟨lack, hlack⟩ : ∃ lack, lack = wanted - sliceSum ss f m := ⟨_, rfl⟩
    have el : wanted - ((ss.take (f + m)).drop f).sum = lack := by rw [hlack]; rfl
    tm_at "rd"
    dsimp only [gName]
    rw [el]
    show tSeq _ _ _ [some (.ref TT), some (.ref S), some (.ref G), some (.ref A), some (.int (f : Int)), some (.int (m : Int)), some (.int wanted), none, some (.ref D), some (.int lack), none, none] H2
    tm_at "rzs"
    by_cases hl : 0 < wanted - sliceSum ss f m
    rotate_left
    · refine iteT' (decide_eq_true (by omega)) ?_
      refine k H2 (Same.but s02) ?_
      rw [growM_skip hl hg lg]
      exact gG2
    refine iteF' (decide_eq_false (by omega)) ?_
    tm_at "rzs"
    refine ⟨D, _, rfl, sqL gD2, for_enum (K := K) (xs := natsV (freeL ts f m)) (fun p σ H' => ∃ v7 v10 v11 : Option V, σ = [some (.ref TT), some (.ref S), some (.ref G), some (.ref A), some (.int (f : Int)), some (.int (m : Int)), some (.int wanted), v7, some (.ref D), some (.int lack), v10, v11] ∧ But G H2 H' ∧ H' G = some (.lst ((growL ts.length ts ss g f m wanted p).map V.int)))
      ⟨_, _, _, rfl, But.refl, by rw [growL_zero lg]; exact gG2⟩ (fun p σ H' ⟨_, _, _, _, b, _⟩ => sqL (b.app nDG gD2)) ?_ ?_⟩
    · rintro p x T1 σ H3 H4 hx ⟨v7, v10, v11, rfl, b3, g3⟩ nT sT gT
      obtain ⟨c, hc, rfl⟩ := nat_of_map hx
      have hcm := freeL_mem.mp (List.mem_of_getElem? hc)
      have hp := (List.getElem?_eq_some_iff.mp hc).1
      have g4 := sT _ _ g3
      have b4 : But G H2 H4 := b3.trans (Same.but sT)
      have gD4 := b4.app nDG gD2
      have eL : ((natsV (freeL ts f m)).length : Int) = ((freeL ts f m).length : Int) := by rw [List.length_map]
      have hL0 : (0 : Int) < ((natsV (freeL ts f m)).length : Int) := by omega
      have hL1 : ((natsV (freeL ts f m)).length : Int) < 1000000 := by omega
      refine ⟨_, _, rfl, sqT gT, rfl, ?_⟩
      tm_at "rzs"
      refine ⟨_, _, _, _, rfl, rfl, sqL g4, atI_nat (growL_at (by omega)), ?_⟩
      tm_at "rzs"
      refine ⟨G, _, (c : Int), c, rfl, rfl, g4, ixN_nat (by rw [List.length_map, List.length_map, List.length_range]; omega), fun H5 b5 g5 => ?_⟩
      have ev : (if lack * ((p : Int) + 1) / ((natsV (freeL ts f m)).length : Int) - lack * (p : Int) / ((natsV (freeL ts f m)).length : Int) > growP ts ss g f m wanted p c then lack * ((p : Int) + 1) / ((natsV (freeL ts f m)).length : Int) - lack * (p : Int) / ((natsV (freeL ts f m)).length : Int) else growP ts ss g f m wanted p c) = max (growP ts ss g f m wanted p c) (partA (wanted - sliceSum ss f m) (freeL ts f m).length p) := by
        rw [eL, hlack]
        unfold partA
        split <;> omega
      rw [ev, growL_set hc] at g5
      exact ⟨_, _, _, rfl, b4.trans b5, g5⟩
    · rintro σ H3 ⟨v7, v10, v11, rfl, b3, g3⟩
      have e : (natsV (freeL ts f m)).length = (freeL ts f m).length := List.length_map ..
      rw [e, growL_end hl hg lg] at g3
      exact k H3 ((Same.but s02).trans b3) g3
end
end My
namespace My
open PySem PySem.Spec PyProof.Rows L2
section
variable {P : Program} {w : World} {K : PySem.W.Frag} {mg : Str → Option Value} {base : Heap}
def sp_track_parts (K : PySem.W.Frag) : Sp := fun vs H Q _ => ∃ (TT A : Addr) (gap : Int) (xs ys : List V) (ts : List Tk) (qs : List Ask3), vs = [.ref TT, .ref A, .int gap] ∧ H TT = some (.lst xs) ∧ TksAt H xs ts ∧ H A = some (.lst ys) ∧ AsksAt H ys qs ∧ ts ≠ [] ∧ ts.length ≤ 1000 ∧ qs.length ≤ 1000 ∧ (∀ q ∈ qs, AskOk ts.length q) ∧
  ∀ (p : Addr) (H' : Hp), Same H H' → H p = none → H' p = some (.lst ((trackM ts qs gap).map .int)) → Q (.ref p) H'
theorem ok_track_parts (T : Tx K mg) : FnOk P w K mg base CX0 3 T.d_track_parts.f T.d_track_parts.fd ["tracks", "asks", "gap"] (sp_track_parts K) := by
  refine T.d_track_parts.F.ok sc_track_parts (fun vs H Q E h => ?_) (fun cdv A outer s H vs Q E hr h => ?_)
  · obtain ⟨TT, A, gap, xs, ys, ts, qs, rfl, _⟩ := h
    rfl
  · obtain ⟨TT, A, gap, xs, ys, ts, qs, rfl, gT, hts, hA, hqs, ne, hn, hq, ok, k⟩ := h
    have hT : SqL K H TT xs := sqL gT
    refine ⟨_, (pss_cons (ps_setLc (i := 3) (own := [("track", 9)]) (g := gName 9) (by rfl) sc_track_parts.nd rfl rfl (sw_true rfl rfl rfl (by decide +kernel)) (pi_listK (K := K) rfl (pv 0)) (blkOk_by (own := [("track", 9)]) (N := N_track_parts) (sc := defScope s_track_parts) (by decide +kernel)) (fun _ _ _ _ _ => (pg_name (i := 9) sc_track_parts.nd rfl (Or.inl rfl))) (fun _ _ _ _ _ => pts_nil) (fun _ _ _ _ _ => (pe_call (ok_told_cells T) (hr.mono (by decide)) (by rfl) T.d_told_cells.g T.d_told_cells.F.kp T.d_told_cells.b .nil pass0 (pa_cons (pv 9) pa_nil))))
      (pss_cons (ps_for PassesOwn.never (by rfl) (pi_range2 (by rfl) T.b_range (pa_cons pe_int (pa_cons (pe_op op_add (pe_callB (call_lenK (K := K) rfl) (by rfl) T.b_len (by decide +kernel) (pa_cons (pv 0) pa_nil)) pe_int) pa_nil))) (pg_name (i := 4) sc_track_parts.nd rfl (Or.inl rfl))
      (pss_cons (ps_set (i := 5) sc_track_parts.nd rfl (Or.inl rfl) (pe_op op_repA (pe_lstA (pa_cons pe_int pa_nil)) (pe_callB (call_lenK (K := K) rfl) (by rfl) T.b_len (by decide +kernel) (pa_cons (pv 0) pa_nil))))
      (pss_cons (ps_for PassesOwn.never (by rfl) (pi_listK (K := K) rfl (pv 1)) (pg_tup (by rfl) (pgs_cons (pg_name (i := 6) sc_track_parts.nd rfl (Or.inl rfl)) (pgs_cons (pg_name (i := 7) sc_track_parts.nd rfl (Or.inl rfl)) (pgs_cons (pg_name (i := 8) sc_track_parts.nd rfl (Or.inl rfl)) pgs_nil))))
      (pss_one (ps_if (pt_cmpR op_eq (pv 7) (pv 4) (nomark _))
      (pss_one (ps_expr (pe_call (ok_grow_for T) (hr.mono (by decide)) (by rfl) T.d_grow_for.g T.d_grow_for.F.kp T.d_grow_for.b .nil pass0 (pa_cons (pv 0) (pa_cons (pv 3) (pa_cons (pv 5) (pa_cons (pe_tupA (pa_cons (pv 6) (pa_cons (pv 4) (pa_cons (pe_op op_sub (pv 8) (pe_op op_mul (pv 2) (pe_op op_sub (pv 4) pe_int))) pa_nil)))) pa_nil)))))))
      pss_nil)))
      (pss_one (ps_setLc (i := 3) (own := [("size", 8), ("more", 10)]) (g := gTup K 2 (gCons (gName 8) (gCons (gName 10) gNil))) (by rfl) sc_track_parts.nd rfl rfl (sw_true rfl rfl rfl (by decide +kernel)) (pi_zipK (K := K) rfl (by rfl) T.b_zip (pa_cons (pv 3) (pa_cons (pv 5) pa_nil))) (blkOk_by (own := [("size", 8), ("more", 10)]) (N := N_track_parts) (sc := defScope s_track_parts) (by decide +kernel)) (fun _ _ _ _ _ => (pg_tup (by rfl) (pgs_cons (pg_name (i := 8) sc_track_parts.nd rfl (Or.inl rfl)) (pgs_cons (pg_name (i := 10) sc_track_parts.nd rfl (Or.inl rfl)) pgs_nil)))) (fun _ _ _ _ _ => pts_nil) (fun _ _ _ _ _ => (pe_op op_add (pv 8) (pv 10))))))))
      (pss_one (ps_ret (pv 3))))), ?_⟩
    have lx := hts.1
    have ly := hqs.1
    tm_at "rzs"
    refine ⟨⟨_, hT⟩, fun D hD => lcLx (K := K) (xs := xs) (fun i => .int (wAt (ts.map Tk.told) i)) hD hT (by omega) (fun i x H1 Kt Kf hx s1 kk => ?_) (fun H1 s1 g1 => ?_)⟩
    · obtain ⟨t, ht, hat⟩ := hts.at' hx
      rw [told_at ht] at kk
      have hat1 := hat.mono s1
      tm_at "rzs"
      exact kk _ (Same.refl _)
    have e1 : (List.range xs.length).map (fun i => V.int (wAt (ts.map Tk.told) i)) = (stepsM ts qs gap 0).map V.int := by
      rw [lx]
      show _ = (ts.map Tk.told).map V.int
      apply List.ext_getElem?
      intro i
      rw [List.getElem?_map, List.getElem?_map, List.getElem?_map]
      by_cases hi : i < ts.length
      · rw [range_get hi, List.getElem?_eq_getElem hi]
        show some (V.int (wAt (ts.map Tk.told) i)) = _
        rw [told_at (List.getElem?_eq_getElem hi)]; rfl
      · rw [List.getElem?_eq_none (by rw [List.length_range]; omega), List.getElem?_eq_none (by omega)]; rfl
    rw [e1] at g1
    have eN : (((xs.length : Int) + 1) - 1).toNat = ts.length := by omega
    tm_at "rds"
    refine for_range (lo := 1) (n := ((xs.length : Int) + 1 - 1).toNat) (fun i σ H' => ∃ (S : Addr), ∃ v4 v5 v6 v7 v8 v9 v10 : Option V, σ = [some (.ref TT), some (.ref A), some (.int gap), some (.ref S), v4, v5, v6, v7, v8, v9, v10] ∧ Same H H' ∧ H S = none ∧ H' S = some (.lst ((stepsM ts qs gap i).map .int)))
      ⟨D, _, _, _, _, _, _, _, rfl, s1, hD, g1⟩ ?_ ?_
    · rintro i σ H2 hi ⟨S, v4, v5, v6, v7, v8, v9, v10, rfl, s2, fS, gS⟩
      have hin : i < ts.length := by omega
      obtain ⟨ss, hss⟩ : ∃ ss, ss = stepsM ts qs gap i := ⟨_, rfl⟩
      rw [← hss] at gS
      have lss : ss.length = ts.length := by rw [hss]; exact stepsM_len ..
      have em : (1 : Int) + (i : Int) = ((i + 1 : Nat) : Int) := by omega
      rw [em]
      have hT2 := s2.seq hT
      tm_at "rzs"
      intro p3 H3 f3 s3 g3
      have hT3 := s3.seq hT2
      tm_at "rzs"
      refine ⟨p3, _, _, rfl, rfl, g3, by omega, by omega, by (show 1 * _ ≤ sizeLine); exact Nat.le_of_lt (small1000 (by omega)), fun G H4 f4 s4 g4 => ?_⟩
      have eZ : (List.replicate ((xs.length : Int)).toNat [V.int 0]).flatten = (List.replicate ts.length (0 : Int)).map V.int := by
        rw [Int.toNat_natCast, lx]; exact rep_zero _
      rw [eZ] at g4
      have s24 := s3.trans s4
      have gS4 := s24 _ _ gS
      have s04 := s2.trans s24
      have gA4 := s04 _ _ hA
      have hqs4 := hqs.mono s04
      have hts4 := hts.mono s04
      have hT4 := s04.seq hT
      have nAG : A ≠ G := ne_of_none ((s2.trans s3) _ _ hA) f4
      have nSG : S ≠ G := ne_of_none (s3 _ _ gS) f4
      have gT4 := s04 _ _ gT
      have nTG : TT ≠ G := ne_of_none ((s2.trans s3) _ _ gT) f4
      dsimp only [gName]
      refine seq_key (M := fun σ H' => ∃ v6 v7 v8 v9 v10 : Option V, σ = [some (.ref TT), some (.ref A), some (.int gap), some (.ref S), some (.int ((i + 1 : Nat) : Int)), some (.ref G), v6, v7, v8, v9, v10] ∧ But G H4 H' ∧ H' G = some (.lst ((grownM ts qs gap ss (i + 1)).map .int))) ?_ (fun NN hNN => ?_)
      rotate_left
      · tm_at "rzs"
        refine ⟨⟨_, sqL gA4⟩, for_list (K := K) (a := A) (xs := ys) (fun j σ H' => ∃ v6 v7 v8 v9 v10 : Option V, σ = [some (.ref TT), some (.ref A), some (.int gap), some (.ref S), some (.int ((i + 1 : Nat) : Int)), some (.ref G), v6, v7, v8, v9, v10] ∧ But G H4 H' ∧ H' G = some (.lst (((qs.take j).foldl (grow1 ts.length ts gap ss (i + 1)) (List.replicate ts.length 0)).map .int)))
          ⟨_, _, _, _, _, rfl, But.refl, g4⟩ (fun j σ H' _ ⟨_, _, _, _, _, _, b, _⟩ => sqL (b.app nAG gA4)) ?_ ?_⟩
        · rintro j y σ H5 hy ⟨v6, v7, v8, v9, v10, rfl, b5, g5⟩
          obtain ⟨q, hq1, hat⟩ := hqs4.at' hy
          obtain ⟨r, rfl, hr⟩ := hat.but g4 b5
          have okq := ok q (List.mem_of_getElem? hq1)
          obtain ⟨o1, o2, o3⟩ := okq
          have lg : ((qs.take j).foldl (grow1 ts.length ts gap ss (i + 1)) (List.replicate ts.length 0)).length = ts.length := grown_len _ _ List.length_replicate
          have ng : ∀ z ∈ (qs.take j).foldl (grow1 ts.length ts gap ss (i + 1)) (List.replicate ts.length 0), 0 ≤ z := grown_nonneg _ _ fun z hz => by rw [(List.mem_replicate.mp hz).2]; exact Int.le_refl 0
          refine ⟨_, _, rfl, sqT hr, rfl, ?_⟩
          rw [foldl_take hq1]
          generalize (qs.take j).foldl (grow1 ts.length ts gap ss (i + 1)) (List.replicate ts.length 0) = g at g5 lg ng ⊢
          tm_at "rzs"
          by_cases e : q.2.1 = i + 1
          · refine iteT' (decide_eq_true (by rw [e])) ?_
            tm_at "rzs"
            intro pA H6 f6 s6 g6
            have b6 : But G H4 H6 := b5.trans (Same.but s6)
            refine ⟨TT, S, G, pA, xs, ts, ss, g, q.1, i + 1, q.2.2 - gap * (((i + 1 : Nat) : Int) - 1), rfl, .inl (sqL (b6.app nTG gT4)), ?_, nTG, nSG, b6.app nSG gS4, s6 _ _ g5, g6, lss, lg, by omega, by omega, hn, ng, fun H7 b7 g7 => ?_⟩
            · exact hts4.but g4 b6
            refine ⟨_, _, _, _, _, rfl, b6.trans b7, ?_⟩
            unfold grow1
            rw [if_pos e, e]
            exact g7
          · refine iteF' (decide_eq_false (fun z => e (by have := V.int.inj z; omega))) ?_
            tm_at "rzs"
            refine ⟨_, _, _, _, _, rfl, b5, ?_⟩
            unfold grow1
            rw [if_neg e]
            exact g5
        · rintro σ H5 ⟨v6, v7, v8, v9, v10, rfl, b5, g5⟩
          rw [ly, List.take_length] at g5
          exact hNN _ _ ⟨_, _, _, _, _, rfl, b5, g5⟩
      rintro σ H5 ⟨v6, v7, v8, v9, v10, rfl, b5, g5⟩
      have gS5 := b5.app nSG gS4
      have s05 : Same H H5 := Same.mut' s04 b5 ((s2.trans s3).free f4)
      have lgr : (grownM ts qs gap ss (i + 1)).length = ts.length := grown_len _ _ List.length_replicate
      tm_at "rzs"
      refine ⟨S, G, _, _, rfl, sqL gS5, sqL g5, fun D6 f6 => lcZm (K := K) (fun i => .int (wAt ss i)) (fun c => .int (wAt (grownM ts qs gap ss (i + 1)) c)) (fun c => .int (wAt ss c + wAt (grownM ts qs gap ss (i + 1)) c)) (n := ts.length) (by rw [List.length_map, lss]) (by rw [List.length_map, lgr]) (fun c hc => int_at (by omega)) (fun c hc => int_at (by omega)) f6 (sqL gS5) (sqL g5) (by omega) (fun c T H6 Kt Kf hc s6 gT kk => ?_) (fun H6 s6 g6 => ?_)⟩
      · refine ⟨_, _, rfl, sqT gT, rfl, ?_⟩
        tm_at "rzs"
        exact kk _ (Same.refl _)
      refine ⟨D6, _, _, _, _, _, _, _, rfl, s05.trans s6, s05.free f6, ?_⟩
      rw [g6, stepM_V, hss, ← stepsM_succ]
    · rintro σ H2 ⟨S, v4, v5, v6, v7, v8, v9, v10, rfl, s2, fS, gS⟩
      tm_at "rzs"
      refine k S H2 s2 fS ?_
      rw [gS]
      have : ((xs.length : Int) + 1 - 1).toNat = ts.length := by omega
      rw [this]; rfl
end
end My
namespace My
open PySem PySem.Spec PyProof.Rows L2
section
variable {P : Program} {w : World} {K : PySem.W.Frag} {mg : Str → Option Value} {base : Heap}
def sp_track_sizes (K : PySem.W.Frag) (cT cA cN : Addr) : Sp := fun vs H Q E => ∃ (t a g : V) (w : Nat), vs = [t, a, g] ∧ Way H t a g w ∧
  ∀ H', Same H H' → (w = 0 → ∀ r H'', Same H' H'' → Q r H'') ∧ (w = 1 → E (.ref cT) none H') ∧ (w = 2 → E (.ref cA) none H') ∧ (w = 3 → E (.ref cN) none H')
theorem ok_track_sizes (T : Tx K mg) : FnOk P w K mg base (L2.CX P w) 5 T.d_track_sizes.f T.d_track_sizes.fd ["tracks", "asks", "gap"] (sp_track_sizes K T.e_NoTrack.C T.e_NoAsk.C T.e_NoNumber.C) := by
  refine T.d_track_sizes.F.okX sc_track_sizes (fun vs H Q E h => ?_) (fun cdv A outer s H vs Q E hr h => ?_)
  · obtain ⟨t, a, g, w, rfl, _⟩ := h
    rfl
  · obtain ⟨t, a, g, w, rfl, hw, k⟩ := h
    refine ⟨_, (pss_cons (ps_if (pt_not (pt_val (pe_call (ok_are_tracks T) (hr.mono (by decide)) (by rfl) T.d_are_tracks.g T.d_are_tracks.F.kp T.d_are_tracks.b .nil pass0 (pa_cons (pv 0) pa_nil))))
      (pss_one (ps_raise rfl (takes_of rfl rfl rfl rfl) (pmk_own PySem.F.excBase_ValueError T.e_NoTrack.x T.e_NoTrack.g T.e_NoTrack.k (raises_own T.e_NoTrack.b T.e_NoTrack.t) rfl)))
      pss_nil)
      (pss_cons (ps_if (PW.pt (pw_or (pt_not (pt_val (pe_callB is_list (by rfl) T.b_isinstance (by decide +kernel) (pa_cons (pv 1) (pa_cons (pe_bltn (v := .ty "list") (by rfl) T.b_list (by decide +kernel) rfl) pa_nil))))) (pw_or1 (pt_not (pt_val (pe_callB (cr_allK (K := K) rfl rfl) (by rfl) T.b_all (by decide +kernel) (pa_cons (pe_lc (own := [("one", 3)]) (g := gName 3) (by rfl) sc_track_sizes.nd (pi_listK (K := K) rfl (pv 1)) (blkOk_by (own := [("one", 3)]) (N := N_track_sizes) (sc := defScope s_track_sizes) (by decide +kernel)) (fun _ _ _ _ _ => (pg_name (i := 3) sc_track_sizes.nd rfl (Or.inl rfl))) (fun _ _ _ _ _ => pts_nil) (fun _ _ _ _ _ => (pe_call (ok_is_ask T) (hr.mono (by decide)) (by rfl) T.d_is_ask.g T.d_is_ask.F.kp T.d_is_ask.b .nil pass0 (pa_cons (pv 3) (pa_cons (pe_callB (call_lenK (K := K) rfl) (by rfl) T.b_len (by decide +kernel) (pa_cons (pv 0) pa_nil)) pa_nil))))) pa_nil)))))))
      (pss_one (ps_raise rfl (takes_of rfl rfl rfl rfl) (pmk_own PySem.F.excBase_ValueError T.e_NoAsk.x T.e_NoAsk.g T.e_NoAsk.k (raises_own T.e_NoAsk.b T.e_NoAsk.t) rfl)))
      pss_nil)
      (pss_cons (ps_if (pt_not (pt_val (pe_call (ok_is_count T) (hr.mono (by decide)) (by rfl) T.d_is_count.g T.d_is_count.F.kp T.d_is_count.b .nil pass0 (pa_cons (pv 2) pa_nil))))
      (pss_one (ps_raise rfl (takes_of rfl rfl rfl rfl) (pmk_own PySem.F.excBase_ValueError T.e_NoNumber.x T.e_NoNumber.g T.e_NoNumber.k (raises_own T.e_NoNumber.b T.e_NoNumber.t) rfl)))
      pss_nil)
      (pss_one (ps_ret (pe_call (ok_track_parts T) (hr.mono (by decide)) (by rfl) T.d_track_parts.g T.d_track_parts.F.kp T.d_track_parts.b .nil pass0 (pa_cons (pv 0) (pa_cons (pv 1) (pa_cons (pv 2) pa_nil))))))))), ?_⟩
    cases hw with
    | track ht =>
      tm_at "rzs"
      refine fun H1 s1 => ?_
      tm_at "rzs"
      exact (k H1 s1).2.1 rfl
    | @ask ts hg ha =>
      have ht := hg.trs
      tm_at "rzs"
      refine fun H1 s1 => ?_
      obtain ⟨TT, xs, rfl, gT, hts⟩ := hg.ex
      have lx := hts.1
      have gT1 := s1 _ _ gT
      have hn := hg.n
      have ha := ha.mono s1
      cases ha with
      | no h nl =>
        tm_at "rzs"
        refine iteT' (by show (!decide (_ = "list")) = true; rw [decide_eq_false nl]; rfl) ?_
        exact (k H1 s1).2.2.1 rfl
      | @lst A ys ds b g its l e =>
        have ly := its.1
        tm_at "rzs"
        have en : (xs.length : Int) = (ts.length : Int) := by omega
        refine ⟨⟨_, sqL g⟩, fun D hD => lcLx (K := K) (xs := ys) (fun i => .bl (askAt (xs.length : Int) ds i)) hD (sqL g) (by omega) (fun i x H2 Kt Kf hx s2 kk => ?_) (fun H2 s2 g2 => ?_)⟩
        · obtain ⟨q, hq1, hat⟩ := its.at' hx
          have hat2 := hat.mono s2
          have gT2 := s2 _ _ gT1
          rw [askAt_of hq1] at kk
          tm_at "rzs"
          refine ⟨x, q, _, rfl, hat2, ?_⟩
          exact kk _ (Same.refl _)
        rw [bls, ly, askAt_all, en] at g2
        tm_at "rzs"
        refine ⟨D, _, rfl, sqL g2, ?_⟩
        have e2 : (ds.map (askB (ts.length : Int))).all id = false := by rw [e, List.all_map]; rfl
        rw [e2]
        tm_at "rzs"
        exact (k H2 (s1.trans s2)).2.2.1 rfl
    | @number ts qs ty hg hga e n =>
      have ht := hg.trs
      tm_at "rzs"
      refine fun H1 s1 => ?_
      obtain ⟨TT, xs, rfl, gT, hts⟩ := hg.ex
      have lx := hts.1
      have gT1 := s1 _ _ gT
      have hn := hg.n
      obtain ⟨A, ys, rfl, gA, hqs⟩ := hga.ex
      have gA1 := s1 _ _ gA
      have its := asks_its (hqs.mono s1)
      have ly := its.1
      have l := hga.n
      rw [List.length_map] at ly
      tm_at "rzs"
      have en : (xs.length : Int) = (ts.length : Int) := by omega
      refine ⟨⟨_, sqL gA1⟩, fun D hD => lcLx (K := K) (xs := ys) (fun i => .bl (askAt (xs.length : Int) (qs.map askD) i)) hD (sqL gA1) (by omega) (fun i x H2 Kt Kf hx s2 kk => ?_) (fun H2 s2 g2 => ?_)⟩
      · obtain ⟨q, hq1, hat⟩ := its.at' hx
        have hat2 := hat.mono s2
        have gT2 := s2 _ _ gT1
        rw [askAt_of hq1] at kk
        tm_at "rzs"
        refine ⟨x, q, _, rfl, hat2, ?_⟩
        exact kk _ (Same.refl _)
      rw [bls, its.1, askAt_all, en] at g2
      tm_at "rzs"
      refine ⟨D, _, rfl, sqL g2, ?_⟩
      have e2 : ((qs.map askD).map (askB (ts.length : Int))).all id = true := by
        rw [List.all_map]
        exact List.all_eq_true.mpr fun d hd => by
          obtain ⟨q, hq, rfl⟩ := List.mem_map.mp hd
          exact ask_ok (hga.ok q hq)
      rw [e2]
      have s02 := s1.trans s2
      have e7 := e.mono s02
      tm_at "rzs"
      refine iteT' (by rw [n]; rfl) ?_
      exact (k H2 s02).2.2.2 rfl
    | @told ts qs n hg hga e k0 =>
      subst e
      have ht := hg.trs
      tm_at "rzs"
      refine fun H1 s1 => ?_
      obtain ⟨TT, xs, rfl, gT, hts⟩ := hg.ex
      have lx := hts.1
      have gT1 := s1 _ _ gT
      have hn := hg.n
      obtain ⟨A, ys, rfl, gA, hqs⟩ := hga.ex
      have gA1 := s1 _ _ gA
      have its := asks_its (hqs.mono s1)
      have ly := its.1
      have l := hga.n
      rw [List.length_map] at ly
      tm_at "rzs"
      have en : (xs.length : Int) = (ts.length : Int) := by omega
      refine ⟨⟨_, sqL gA1⟩, fun D hD => lcLx (K := K) (xs := ys) (fun i => .bl (askAt (xs.length : Int) (qs.map askD) i)) hD (sqL gA1) (by omega) (fun i x H2 Kt Kf hx s2 kk => ?_) (fun H2 s2 g2 => ?_)⟩
      · obtain ⟨q, hq1, hat⟩ := its.at' hx
        have hat2 := hat.mono s2
        have gT2 := s2 _ _ gT1
        rw [askAt_of hq1] at kk
        tm_at "rzs"
        refine ⟨x, q, _, rfl, hat2, ?_⟩
        exact kk _ (Same.refl _)
      rw [bls, its.1, askAt_all, en] at g2
      tm_at "rzs"
      refine ⟨D, _, rfl, sqL g2, ?_⟩
      have e2 : ((qs.map askD).map (askB (ts.length : Int))).all id = true := by
        rw [List.all_map]
        exact List.all_eq_true.mpr fun d hd => by
          obtain ⟨q, hq, rfl⟩ := List.mem_map.mp hd
          exact ask_ok (hga.ok q hq)
      rw [e2]
      have s02 := s1.trans s2
      tm_at "rzs"
      refine iteF' (by show (!decide (0 ≤ n)) = false; rw [decide_eq_true k0]; rfl) ?_
      tm_at "rzs"
      exact ⟨TT, A, n, xs, ys, ts, qs, rfl, s02 _ _ gT, hts.mono s02, s02 _ _ gA, hqs.mono s02, hg.ne, hg.n, hga.n, hga.ok, fun p H' s3 f3 g3 => (k H2 s02).1 rfl _ _ s3⟩
end
end My
namespace My
open PySem PySem.Spec PyProof.Rows L2
section
variable {P : Program} {w : World} {K : PySem.W.Frag} {mg : Str → Option Value} {base : Heap}
def sp_w_cell_at (K : PySem.W.Frag) : Sp := fun vs H Q _ => ∃ (a : Addr) (ns : List Int), vs = [.ref a, .int 0] ∧ SqL K H a (ns.map V.int) ∧ ns.length ≤ 63 ∧ Q (.int (ns.headD 0)) H
theorem ok_w_cell_at (T : Tx K mg) : FnOk P w K mg base CX0 1 T.d_w_cell_at.f T.d_w_cell_at.fd ["_law_script", "_law_k"] (sp_w_cell_at K) := by
  refine T.d_w_cell_at.F.ok sc_w_cell_at (fun vs H Q E h => ?_) (fun cdv A outer s H vs Q E hr h => ?_)
  · obtain ⟨x, t, rfl, _⟩ := h
    rfl
  · obtain ⟨a, ns, rfl, hS, hl, k⟩ := h
    refine ⟨_, (pss_cons (ps_if (pt_cmpR op_lt (pv 1) (pe_callB (call_lenK (K := K) rfl) (by rfl) T.b_len (by decide +kernel) (pa_cons (pv 0) pa_nil)) (nomark _))
      (pss_one (ps_ret (pe_ix (ix_seqK (K := K) rfl) (pv 0) (pv 1) (fun _ _ => rfl))))
      pss_nil)
      (pss_one (ps_ret pe_int))), ?_⟩
    refine ⟨_, rfl, _, rfl, _, _, rfl, .inl ⟨_, hS, rfl⟩, _, _, rfl, rfl, _, rfl, ite2 (fun e => ?_) (fun e => ?_)⟩
    · cases ns with
      | nil => simp at e
      | cons z r => exact ⟨_, rfl, _, rfl, .inl ⟨_, _, _, _, rfl, rfl, hS, atI_nat (j := 0) rfl, k⟩⟩
    · cases ns with
      | nil => exact k
      | cons z r => simp at e
end
end My
namespace My
open PySem PySem.Spec PyProof.Rows L2
section
variable {P : Program} {w : World} {K : PySem.W.Frag} {mg : Str → Option Value} {base : Heap}
def sp_w_mixed : Sp := fun vs H Q _ => ∃ (c k : Int), vs = [.int c, .int k] ∧ ∀ n : Int, 0 ≤ n → Q (.int n) H
theorem ok_w_mixed (T : Tx K mg) : FnOk P w K mg base CX0 1 T.d_w_mixed.f T.d_w_mixed.fd ["_law_cell", "_law_k"] (sp_w_mixed) := by
  refine T.d_w_mixed.F.ok sc_w_mixed (fun vs H Q E h => ?_) (fun cdv A outer s H vs Q E hr h => ?_)
  · obtain ⟨x, t, rfl, _⟩ := h
    rfl
  · obtain ⟨c, j, rfl, k⟩ := h
    refine ⟨_, (pss_cons (ps_set (i := 2) sc_w_mixed.nd rfl (Or.inl rfl) (pe_op op_add (pe_op op_mod (pv 0) pe_int) (pe_op op_mul (pe_op op_fdivW (pv 0) pe_int) pe_int)))
      (pss_cons (ps_set (i := 2) sc_w_mixed.nd rfl (Or.inl rfl) (pe_op op_mod (pe_op op_mul (pe_op op_add (pe_op op_add (pv 2) (pe_op op_mul pe_int (pv 1))) pe_int) pe_int) pe_int))
      (pss_cons (ps_set (i := 2) sc_w_mixed.nd rfl (Or.inl rfl) (pe_op op_mod (pe_op op_mul (pv 2) (pe_op op_add (pe_op op_add (pe_op op_fdivW (pv 2) pe_int) pe_int) (pv 1))) pe_int))
      (pss_one (ps_ret (pe_op op_mod (pe_op op_mul (pv 2) (pe_op op_add (pe_op op_fdivW (pv 2) pe_int) pe_int)) pe_int)))))), ?_⟩
    tm_at "rds"
    refine k _ ?_
    exact Int.emod_nonneg _ (by decide)
end
end My
namespace My
open PySem PySem.Spec PyProof.Rows L2
section
variable {P : Program} {w : World} {K : PySem.W.Frag} {mg : Str → Option Value} {base : Heap}
def sp_w_next : Sp := fun vs H Q _ => ∃ (a : Addr) (m : Int), vs = [.ref a, .int m] ∧ Src H a ∧ 0 < m ∧ m < 2 ^ 64 ∧
  ∀ (n : Int) (H' : Hp), Dr a H H' → 0 ≤ n → n < m → Q (.int n) H'
theorem ok_w_next (T : Tx K mg) : FnOk P w K mg base CX0 2 T.d_w_next.f T.d_w_next.fd ["_law_source", "_law_many"] (sp_w_next) := by
  refine T.d_w_next.F.ok sc_w_next (fun vs H Q E h => ?_) (fun cdv A outer s H vs Q E hr h => ?_)
  · obtain ⟨a, m, rfl, _⟩ := h
    rfl
  · obtain ⟨a, m, rfl, ⟨⟨c0, c1, c2⟩, hs⟩, m0, m1, k⟩ := h
    have hL : SqL K H a [.int c0, .int c1, .int c2] := sqL hs
    refine ⟨_, (pss_cons (ps_if (pt_cmpR op_ge (pe_ix (ix_seqK (K := K) rfl) (pv 0) pe_int (fun _ _ => rfl)) (pe_op op_pow pe_int pe_int) (nomark _))
      (pss_cons (ps_set (i := 2) sc_w_next.nd rfl (Or.inl rfl) (pe_op op_mod (pe_ix (ix_seqK (K := K) rfl) (pv 0) pe_int (fun _ _ => rfl)) (pv 1)))
      (pss_cons (ps_asg (pe_op op_fdivW (pe_ix (ix_seqK (K := K) rfl) (pv 0) pe_int (fun _ _ => rfl)) (pv 1)) (pg_sub (pv 0) pe_int set_listA))
      (pss_one (ps_ret (pv 2)))))
      pss_nil)
      (pss_cons (ps_asg (pe_op op_add (pe_ix (ix_seqK (K := K) rfl) (pv 0) pe_int (fun _ _ => rfl)) pe_int) (pg_sub (pv 0) pe_int set_listA))
      (pss_one (ps_ret (pe_op op_mod (pe_call (ok_w_mixed T) (hr.mono (by decide)) (by rfl) T.d_w_mixed.g T.d_w_mixed.F.kp T.d_w_mixed.b .nil pass0 (pa_cons (pe_ix (ix_seqK (K := K) rfl) (pv 0) pe_int (fun _ _ => rfl)) (pa_cons (pe_ix (ix_seqK (K := K) rfl) (pv 0) pe_int (fun _ _ => rfl)) pa_nil))) (pv 1)))))), ?_⟩
    refine ⟨_, rfl, .inl ⟨_, _, _, _, rfl, rfl, hL, atI_nat (j := 0) rfl, _, _, rfl, rfl, ⟨by decide, by decide, by decide⟩, _, _, rfl, rfl, _, rfl, ite2 (fun e => ?_) (fun e => ?_)⟩⟩
    · refine ⟨_, rfl, .inl ⟨_, _, _, _, rfl, rfl, hL, atI_nat (j := 0) rfl, ?_⟩⟩
      tm_at "rds"
      refine .inl ⟨_, _, _, _, rfl, rfl, hL, atI_nat (j := 0) rfl, ?_⟩
      tm_at "rds"
      refine ⟨_, _, _, _, rfl, rfl, hs, rfl, fun H1 B1 g1 => ?_⟩
      tm_at "rds"
      refine k _ _ ⟨⟨(c0 / m, c1, c2), g1⟩, B1⟩ ?_ ?_
      · exact Int.emod_nonneg _ (by omega)
      · exact Int.emod_lt_of_pos _ m0
    · refine ⟨_, rfl, .inl ⟨_, _, _, _, rfl, rfl, hL, atI_nat (j := 2) rfl, ?_⟩⟩
      tm_at "rds"
      refine ⟨_, _, _, _, rfl, rfl, hs, rfl, fun H1 B1 g1 => ?_⟩
      refine ⟨_, rfl, .inl ⟨_, _, _, _, rfl, rfl, sqL g1, atI_nat (j := 1) rfl, ?_⟩⟩
      refine ⟨_, rfl, .inl ⟨_, _, _, _, rfl, rfl, sqL g1, atI_nat (j := 2) rfl, ?_⟩⟩
      refine ⟨_, _, rfl, fun n n0 => ?_⟩
      tm_at "rds"
      refine k _ _ ⟨⟨(c0, c1, c2 + 1), g1⟩, B1⟩ ?_ ?_
      · exact Int.emod_nonneg _ (by omega)
      · exact Int.emod_lt_of_pos _ m0
end
end My
namespace My
open PySem PySem.Spec PyProof.Rows L2
section
variable {P : Program} {w : World} {K : PySem.W.Frag} {mg : Str → Option Value} {base : Heap}
def dueS : Nat → Str
  | 0 => "told"
  | 1 => "track"
  | 2 => "ask"
  | _ => "number"
def sp_w_word : Sp := fun vs H Q E => ∃ (t a g : V) (w : Nat), vs = [t, a, g] ∧ Way H t a g w ∧ ∀ H', Same H H' → Q (.str (dueS w)) H'
theorem ok_w_word (T : Tx K mg) : FnOk P w K mg base CX0 6 T.d_w_word.f T.d_w_word.fd ["_law_tracks", "_law_asks", "_law_gap"] (sp_w_word) := by
  refine T.d_w_word.F.ok sc_w_word (fun vs H Q E h => ?_) (fun cdv A outer s H vs Q E hr h => ?_)
  · obtain ⟨t, a, g, w, rfl, _⟩ := h
    rfl
  · obtain ⟨t, a, g, w, rfl, hw, k⟩ := h
    refine ⟨_, (pss_cons (ps_try_as (i := 3) rfl rfl sc_w_word.nd rfl rfl ⟨rfl, by decide, Or.inl T.e_NestError.g⟩ takes0 (fun W pn xe tk _ =>
      (pss_one (ps_expr (pe_callS (ok_track_sizes T) (hr.mono (by decide)) (by rfl) T.d_track_sizes.g T.d_track_sizes.F.kp T.d_track_sizes.b (fun σ => passAt tk σ) (pa_cons (pv 0) (pa_cons (pv 1) (pa_cons (pv 2) pa_nil)))))))
      (fun a oe cls d pn hz hf =>
      (pss_cons (ps_set (i := 4) sc_w_word.nd rfl (Or.inl rfl) (pe_lstA (pa_cons (pe_callB (call_isX hz hf) (by rfl) T.b_isinstance (by decide +kernel) (pa_cons (pv 3) (pa_cons (pe_glob (v := .ref T.e_NoTrack.C) (by rfl) T.e_NoTrack.g rfl) pa_nil))) (pa_cons (pe_callB (call_isX hz hf) (by rfl) T.b_isinstance (by decide +kernel) (pa_cons (pv 3) (pa_cons (pe_glob (v := .ref T.e_NoAsk.C) (by rfl) T.e_NoAsk.g rfl) pa_nil))) (pa_cons (pe_callB (call_isX hz hf) (by rfl) T.b_isinstance (by decide +kernel) (pa_cons (pv 3) (pa_cons (pe_glob (v := .ref T.e_NoNumber.C) (by rfl) T.e_NoNumber.g rfl) pa_nil))) pa_nil)))))
      (pss_cons (ps_if (PW.pt (pw_or (pt_cmpR op_ne (pe_bmK (K := K) rfl PySem.F.plainAttrs_list PySem.F.slot_list_count PySem.F.type_list_count (mt_countFK (K := K) rfl) (pv 4) (pa_cons pe_bl pa_nil)) pe_int (nomark _)) (pw_or1 (pt_not (pt_val (pe_callB (call_isX hz hf) (by rfl) T.b_isinstance (by decide +kernel) (pa_cons (pv 3) (pa_cons (pe_bltn (v := .ty "ValueError") (by rfl) T.b_ValueError (by decide +kernel) rfl) pa_nil))))))))
      (pss_one (ps_ret pe_str))
      pss_nil)
      (pss_one (ps_ret (pe_ix (ix_listK (K := K) rfl) (pe_lstA (pa_cons pe_str (pa_cons pe_str (pa_cons pe_str pa_nil)))) (pe_bmK (K := K) rfl PySem.F.plainAttrs_list PySem.F.slot_list_index PySem.F.type_list_index (mt_indexK (K := K) rfl) (pv 4) (pa_cons pe_bl pa_nil)) (fun _ _ => rfl))))))))
      (pss_one (ps_ret pe_str))), ?_⟩
    tm_at "rds"
    refine ⟨t, a, g, w, rfl, hw, fun H1 s1 => ⟨fun e r H2 s2 => ?_, fun e => ?_, fun e => ?_, fun e => ?_⟩⟩
    · subst e
      tm_at "rds"
      exact k _ (s1.trans s2)
    · subst e
      refine ⟨true, T.e_NestError.exm T.r_NoTrack, fun _ ae hae => ?_, fun q => Bool.noConfusion q⟩
      tm_at "rds"
      refine ⟨_, _, _, _, rfl, rfl, T.e_NoTrack.E, rfl, fun u r => r, T.e_NoTrack.kit T.e_NoTrack T.i_NoTrack_NoTrack T.i_NoTrack_NoTrack, ?_⟩
      tm_at "rzs"
      refine ⟨_, _, _, _, rfl, rfl, T.e_NoTrack.E, rfl, fun u r => r, T.e_NoTrack.kit T.e_NoAsk T.i_NoTrack_NoTrack T.i_NoTrack_NoAsk, ?_⟩
      tm_at "rzs"
      refine ⟨_, _, _, _, rfl, rfl, T.e_NoTrack.E, rfl, fun u r => r, T.e_NoTrack.kit T.e_NoNumber T.i_NoTrack_NoTrack T.i_NoTrack_NoNumber, ?_⟩
      tm_at "rzs"
      intro p H2 f2 s2 g2
      tm_at "rzs"
      refine ⟨p, _, _, rfl, rfl, sqL g2, rfl, rfl, ?_⟩
      tm_at "rzs"
      refine ⟨_, _, _, _, rfl, rfl, T.e_NoTrack.E, rfl, fun u r => r, T.e_NoTrack.kitT T.v_NoTrack, ?_⟩
      tm_at "rzs"
      intro p3 H3 f3 s3 g3
      have g23 := s3 _ _ g2
      tm_at "rzs"
      refine ⟨p, _, _, 0, _, rfl, rfl, sqL g23, rfl, rfl, rfl, rfl, fun m z' hm _ => absurd hm (by omega), ?_⟩
      refine ⟨_, _, _, _, rfl, rfl, sqL g3, rfl, ?_⟩
      exact k _ (s1.trans (s2.trans s3))
    · subst e
      refine ⟨true, T.e_NestError.exm T.r_NoAsk, fun _ ae hae => ?_, fun q => Bool.noConfusion q⟩
      tm_at "rds"
      refine ⟨_, _, _, _, rfl, rfl, T.e_NoAsk.E, rfl, fun u r => r, T.e_NoAsk.kit T.e_NoTrack T.i_NoAsk_NoAsk T.i_NoAsk_NoTrack, ?_⟩
      tm_at "rzs"
      refine ⟨_, _, _, _, rfl, rfl, T.e_NoAsk.E, rfl, fun u r => r, T.e_NoAsk.kit T.e_NoAsk T.i_NoAsk_NoAsk T.i_NoAsk_NoAsk, ?_⟩
      tm_at "rzs"
      refine ⟨_, _, _, _, rfl, rfl, T.e_NoAsk.E, rfl, fun u r => r, T.e_NoAsk.kit T.e_NoNumber T.i_NoAsk_NoAsk T.i_NoAsk_NoNumber, ?_⟩
      tm_at "rzs"
      intro p H2 f2 s2 g2
      tm_at "rzs"
      refine ⟨p, _, _, rfl, rfl, sqL g2, rfl, rfl, ?_⟩
      tm_at "rzs"
      refine ⟨_, _, _, _, rfl, rfl, T.e_NoAsk.E, rfl, fun u r => r, T.e_NoAsk.kitT T.v_NoAsk, ?_⟩
      tm_at "rzs"
      intro p3 H3 f3 s3 g3
      have g23 := s3 _ _ g2
      tm_at "rzs"
      refine ⟨p, _, _, 1, _, rfl, rfl, sqL g23, rfl, rfl, rfl, rfl, fun m z' hm hz => (by (have e : m = 0 := by omega); subst e; cases hz; rfl), ?_⟩
      refine ⟨_, _, _, _, rfl, rfl, sqL g3, rfl, ?_⟩
      exact k _ (s1.trans (s2.trans s3))
    · subst e
      refine ⟨true, T.e_NestError.exm T.r_NoNumber, fun _ ae hae => ?_, fun q => Bool.noConfusion q⟩
      tm_at "rds"
      refine ⟨_, _, _, _, rfl, rfl, T.e_NoNumber.E, rfl, fun u r => r, T.e_NoNumber.kit T.e_NoTrack T.i_NoNumber_NoNumber T.i_NoNumber_NoTrack, ?_⟩
      tm_at "rzs"
      refine ⟨_, _, _, _, rfl, rfl, T.e_NoNumber.E, rfl, fun u r => r, T.e_NoNumber.kit T.e_NoAsk T.i_NoNumber_NoNumber T.i_NoNumber_NoAsk, ?_⟩
      tm_at "rzs"
      refine ⟨_, _, _, _, rfl, rfl, T.e_NoNumber.E, rfl, fun u r => r, T.e_NoNumber.kit T.e_NoNumber T.i_NoNumber_NoNumber T.i_NoNumber_NoNumber, ?_⟩
      tm_at "rzs"
      intro p H2 f2 s2 g2
      tm_at "rzs"
      refine ⟨p, _, _, rfl, rfl, sqL g2, rfl, rfl, ?_⟩
      tm_at "rzs"
      refine ⟨_, _, _, _, rfl, rfl, T.e_NoNumber.E, rfl, fun u r => r, T.e_NoNumber.kitT T.v_NoNumber, ?_⟩
      tm_at "rzs"
      intro p3 H3 f3 s3 g3
      have g23 := s3 _ _ g2
      tm_at "rzs"
      refine ⟨p, _, _, 2, _, rfl, rfl, sqL g23, rfl, rfl, rfl, rfl, fun m z' hm hz => (by (have e : m = 0 ∨ m = 1 := by omega); rcases e with e | e <;> (subst e; cases hz; rfl)), ?_⟩
      refine ⟨_, _, _, _, rfl, rfl, sqL g3, rfl, ?_⟩
      exact k _ (s1.trans (s2.trans s3))
end
end My
namespace My
open PySem PySem.Spec PyProof.Rows L2
section
variable {P : Program} {w : World} {K : PySem.W.Frag} {mg : Str → Option Value} {base : Heap}
def badTk (d : PyData) : Bool := fineD d && !trackB d
def sp_w_bad_track : Sp := fun vs H Q _ => ∃ (s : Addr), vs = [.ref s] ∧ Src H s ∧ ∀ (v : V) (H' : Hp), Dr s H H' → Bad badTk H H' v → Q v H'
theorem ok_w_bad_track (T : Tx K mg) : FnOk P w K mg base CX0 3 T.d_w_bad_track.f T.d_w_bad_track.fd ["_law_source"] (sp_w_bad_track) := by
  refine T.d_w_bad_track.F.ok sc_w_bad_track (fun vs H Q E h => ?_) (fun cdv A outer s H vs Q E hr h => ?_)
  · obtain ⟨s, rfl, _⟩ := h
    rfl
  · obtain ⟨s, rfl, hs, k⟩ := h
    refine ⟨_, (pss_cons (ps_set (i := 1) sc_w_bad_track.nd rfl (Or.inl rfl) (pe_lstA (pa_cons (pe_op op_sub pe_int pe_int) (pa_cons pe_bl (pa_cons pe_non (pa_cons pe_str (pa_cons pe_str (pa_cons pe_str (pa_cons (pe_tupA (pa_cons pe_str (pa_cons pe_int pa_nil))) (pa_cons (pe_tupA (pa_cons pe_str (pa_cons (pe_op op_sub pe_int pe_int) pa_nil))) (pa_cons (pe_tupA (pa_cons pe_str pa_nil)) (pa_cons (pe_tupA (pa_cons pe_str (pa_cons pe_int (pa_cons pe_int pa_nil)))) pa_nil))))))))))))
      (pss_cons (ps_set (i := 1) sc_w_bad_track.nd rfl (Or.inl rfl) (pe_op (op_catK (K := K) rfl) (pv 1) (pe_lstA (pa_cons (pe_tupA (pa_cons pe_str (pa_cons pe_int pa_nil))) (pa_cons (pe_tupA (pa_cons pe_str (pa_cons pe_bl pa_nil))) (pa_cons (pe_tupA (pa_cons pe_str (pa_cons pe_str pa_nil))) (pa_cons (pe_lstA (pa_cons pe_str (pa_cons pe_int pa_nil))) (pa_cons (pe_tupA pa_nil) (pa_cons (pe_tupA (pa_cons pe_str (pa_cons pe_int pa_nil))) (pa_cons pe_str pa_nil))))))))))
      (pss_one (ps_ret (pe_ix (ix_seqK (K := K) rfl) (pv 1) (pe_call (ok_w_next T) (hr.mono (by decide)) (by rfl) T.d_w_next.g T.d_w_next.F.kp T.d_w_next.b .nil pass0 (pa_cons (pv 0) (pa_cons pe_int pa_nil))) (fun _ _ => rfl)))))), ?_⟩
    tm_at "rzs"
    intro p1 H1 f1 s1 g1
    tm_at "rzs"
    intro p2 H2 f2 s2 g2
    tm_at "rzs"
    intro p3 H3 f3 s3 g3
    tm_at "rzs"
    intro p4 H4 f4 s4 g4
    tm_at "rzs"
    intro p5 H5 f5 s5 g5
    tm_at "rzs"
    intro p6 H6 f6 s6 g6
    tm_at "rzs"
    intro p7 H7 f7 s7 g7
    tm_at "rzs"
    intro p8 H8 f8 s8 g8
    tm_at "rzs"
    intro p9 H9 f9 s9 g9
    tm_at "rzs"
    intro p10 H10 f10 s10 g10
    tm_at "rzs"
    intro p11 H11 f11 s11 g11
    tm_at "rzs"
    intro p12 H12 f12 s12 g12
    tm_at "rzs"
    have t11 : Same H11 H12 := s12
    have t10 : Same H10 H12 := s11.trans t11
    have t9 : Same H9 H12 := s10.trans t10
    have t8 : Same H8 H12 := s9.trans t9
    have t7 : Same H7 H12 := s8.trans t8
    have t6 : Same H6 H12 := s7.trans t7
    have t5 : Same H5 H12 := s6.trans t6
    have t4 : Same H4 H12 := s5.trans t5
    have t3 : Same H3 H12 := s4.trans t4
    have t2 : Same H2 H12 := s3.trans t3
    have t1 : Same H1 H12 := s2.trans t2
    have u1 : Same H H1 := s1
    have u2 : Same H H2 := u1.trans s2
    have u3 : Same H H3 := u2.trans s3
    have u4 : Same H H4 := u3.trans s4
    have u5 : Same H H5 := u4.trans s5
    have u6 : Same H H6 := u5.trans s6
    have u7 : Same H H7 := u6.trans s7
    have u8 : Same H H8 := u7.trans s8
    have u9 : Same H H9 := u8.trans s9
    have u10 : Same H H10 := u9.trans s10
    have u11 : Same H H11 := u10.trans s11
    have u12 : Same H H12 := u11.trans s12
    have q1 : H p1 = none := f1
    have q2 : H p2 = none := u1.free f2
    have q3 : H p3 = none := u2.free f3
    have q4 : H p4 = none := u3.free f4
    have q5 : H p5 = none := u4.free f5
    have q6 : H p6 = none := u5.free f6
    have q7 : H p7 = none := u6.free f7
    have q8 : H p8 = none := u7.free f8
    have q9 : H p9 = none := u8.free f9
    have q10 : H p10 = none := u9.free f10
    have q11 : H p11 = none := u10.free f11
    have q12 : H p12 = none := u11.free f12
    refine ⟨_, _, _, _, rfl, rfl, (t5 _ _ g5), g12, (show _ ≤ sizeLine from by rw [sizeLine_eq]; exact Nat.le_of_ble_eq_true rfl), ?_⟩
    intro p13 H13 f13 s13 g13
    tm_at "rzs"
    intro i HZ dZ lZ uZ
    have hB : ∀ y ∈ _, Bad badTk H H13 y := all_c (bad_fl (.int (0 - 1)) rfl (by decide +kernel)) <| all_c (bad_fl (.bool true) rfl (by decide +kernel)) <| all_c (bad_fl (.none) rfl (by decide +kernel)) <| all_c (bad_fl (.str "Fit") rfl (by decide +kernel)) <| all_c (bad_fl (.str "") rfl (by decide +kernel)) <| all_c (bad_fl (.str "fits") rfl (by decide +kernel)) <| all_c (bad_tup (r := p1) [.str "share", .int (0)] (s13 _ _ (t1 _ _ g1)) rfl (by decide +kernel) q1) <| all_c (bad_tup (r := p2) [.str "share", .int (0 - 2)] (s13 _ _ (t2 _ _ g2)) rfl (by decide +kernel) q2) <| all_c (bad_tup (r := p3) [.str "share"] (s13 _ _ (t3 _ _ g3)) rfl (by decide +kernel) q3) <| all_c (bad_tup (r := p4) [.str "share", .int (1), .int (1)] (s13 _ _ (t4 _ _ g4)) rfl (by decide +kernel) q4) <| all_c (bad_tup (r := p6) [.str "shares", .int (1)] (s13 _ _ (t6 _ _ g6)) rfl (by decide +kernel) q6) <| all_c (bad_tup (r := p7) [.str "share", .bool true] (s13 _ _ (t7 _ _ g7)) rfl (by decide +kernel) q7) <| all_c (bad_tup (r := p8) [.str "share", .str "1"] (s13 _ _ (t8 _ _ g8)) rfl (by decide +kernel) q8) <| all_c (bad_lst (r := p9) [.str "share", .int (1)] (s13 _ _ (t9 _ _ g9)) rfl (by decide +kernel) q9) <| all_c (bad_tup (r := p10) [] (s13 _ _ (t10 _ _ g10)) rfl (by decide +kernel) q10) <| all_c (bad_tup (r := p11) [.str "fit", .int (1)] (s13 _ _ (t11 _ _ g11)) rfl (by decide +kernel) q11) <| all_c (bad_fl (.str "share") rfl (by decide +kernel)) <| all_n
    obtain ⟨v, hv, hb⟩ := pick_all' hB lZ uZ
    have uM : Same H H13 := u12.trans s13
    have hsM : Src H13 s := hs.same uM
    have dM : Dr s H H13 := Dr.of hs uM
    have nM : p13 ≠ s := hs.ne (u12.free f13)
    refine ixE (Or.inl (sqL (dZ.app nM g13))) hv ?_
    exact k v HZ (dM.trans dZ) (hb.dr' hs hsM dZ)
end
end My
namespace My
open PySem PySem.Spec PyProof.Rows L2
section
variable {P : Program} {w : World} {K : PySem.W.Frag} {mg : Str → Option Value} {base : Heap}
def badAsk (n : Int) (d : PyData) : Bool := !askB n d
theorem notB {b : Bool} (h : b = false) : (!b) = true := by rw [h]; rfl
def sp_w_bad_ask : Sp := fun vs H Q _ => ∃ (s : Addr) (n : Nat), vs = [.ref s, .int (n : Int)] ∧ Src H s ∧ 1 ≤ n ∧ n ≤ 1000 ∧ ∀ (v : V) (H' : Hp), Dr s H H' → Bad (badAsk n) H H' v → Q v H'
theorem ok_w_bad_ask (T : Tx K mg) : FnOk P w K mg base CX0 3 T.d_w_bad_ask.f T.d_w_bad_ask.fd ["_law_source", "_law_count"] (sp_w_bad_ask) := by
  refine T.d_w_bad_ask.F.ok sc_w_bad_ask (fun vs H Q E h => ?_) (fun cdv A outer s H vs Q E hr h => ?_)
  · obtain ⟨s, n, rfl, _⟩ := h
    rfl
  · obtain ⟨s, n, rfl, hs, n1, n2, k⟩ := h
    refine ⟨_, (pss_cons (ps_set (i := 2) sc_w_bad_ask.nd rfl (Or.inl rfl) (pe_lstA (pa_cons (pe_tupA (pa_cons pe_int (pa_cons pe_int (pa_cons pe_int pa_nil)))) (pa_cons (pe_tupA (pa_cons pe_int (pa_cons (pe_op op_add (pv 1) pe_int) (pa_cons pe_int pa_nil)))) (pa_cons (pe_tupA (pa_cons (pv 1) (pa_cons pe_int (pa_cons pe_int pa_nil)))) (pa_cons (pe_tupA (pa_cons (pe_op op_sub pe_int pe_int) (pa_cons pe_int (pa_cons pe_int pa_nil)))) (pa_cons (pe_tupA (pa_cons pe_int (pa_cons pe_int (pa_cons (pe_op op_sub pe_int pe_int) pa_nil)))) (pa_cons (pe_tupA (pa_cons pe_int (pa_cons pe_int pa_nil))) (pa_cons (pe_tupA (pa_cons pe_int (pa_cons pe_int (pa_cons pe_int (pa_cons pe_int pa_nil))))) (pa_cons pe_non pa_nil))))))))))
      (pss_cons (ps_set (i := 2) sc_w_bad_ask.nd rfl (Or.inl rfl) (pe_op (op_catK (K := K) rfl) (pv 2) (pe_lstA (pa_cons (pe_lstA (pa_cons pe_int (pa_cons pe_int (pa_cons pe_int pa_nil)))) (pa_cons (pe_tupA (pa_cons pe_bl (pa_cons pe_int (pa_cons pe_int pa_nil)))) (pa_cons (pe_tupA (pa_cons pe_int (pa_cons pe_bl (pa_cons pe_int pa_nil)))) (pa_cons (pe_tupA (pa_cons pe_int (pa_cons pe_int (pa_cons pe_bl pa_nil)))) (pa_cons (pe_tupA (pa_cons pe_str (pa_cons pe_int (pa_cons pe_int pa_nil)))) (pa_cons (pe_tupA (pa_cons pe_int (pa_cons pe_int (pa_cons pe_non pa_nil)))) (pa_cons (pe_tupA pa_nil) (pa_cons pe_int pa_nil)))))))))))
      (pss_one (ps_ret (pe_ix (ix_seqK (K := K) rfl) (pv 2) (pe_call (ok_w_next T) (hr.mono (by decide)) (by rfl) T.d_w_next.g T.d_w_next.F.kp T.d_w_next.b .nil pass0 (pa_cons (pv 0) (pa_cons pe_int pa_nil))) (fun _ _ => rfl)))))), ?_⟩
    tm_at "rzs"
    intro p1 H1 f1 s1 g1
    tm_at "rzs"
    intro p2 H2 f2 s2 g2
    tm_at "rzs"
    intro p3 H3 f3 s3 g3
    tm_at "rzs"
    intro p4 H4 f4 s4 g4
    tm_at "rzs"
    intro p5 H5 f5 s5 g5
    tm_at "rzs"
    intro p6 H6 f6 s6 g6
    tm_at "rzs"
    intro p7 H7 f7 s7 g7
    tm_at "rzs"
    intro p8 H8 f8 s8 g8
    tm_at "rzs"
    intro p9 H9 f9 s9 g9
    tm_at "rzs"
    intro p10 H10 f10 s10 g10
    tm_at "rzs"
    intro p11 H11 f11 s11 g11
    tm_at "rzs"
    intro p12 H12 f12 s12 g12
    tm_at "rzs"
    intro p13 H13 f13 s13 g13
    tm_at "rzs"
    intro p14 H14 f14 s14 g14
    tm_at "rzs"
    intro p15 H15 f15 s15 g15
    tm_at "rzs"
    intro p16 H16 f16 s16 g16
    tm_at "rzs"
    have t15 : Same H15 H16 := s16
    have t14 : Same H14 H16 := s15.trans t15
    have t13 : Same H13 H16 := s14.trans t14
    have t12 : Same H12 H16 := s13.trans t13
    have t11 : Same H11 H16 := s12.trans t12
    have t10 : Same H10 H16 := s11.trans t11
    have t9 : Same H9 H16 := s10.trans t10
    have t8 : Same H8 H16 := s9.trans t9
    have t7 : Same H7 H16 := s8.trans t8
    have t6 : Same H6 H16 := s7.trans t7
    have t5 : Same H5 H16 := s6.trans t6
    have t4 : Same H4 H16 := s5.trans t5
    have t3 : Same H3 H16 := s4.trans t4
    have t2 : Same H2 H16 := s3.trans t3
    have t1 : Same H1 H16 := s2.trans t2
    have u1 : Same H H1 := s1
    have u2 : Same H H2 := u1.trans s2
    have u3 : Same H H3 := u2.trans s3
    have u4 : Same H H4 := u3.trans s4
    have u5 : Same H H5 := u4.trans s5
    have u6 : Same H H6 := u5.trans s6
    have u7 : Same H H7 := u6.trans s7
    have u8 : Same H H8 := u7.trans s8
    have u9 : Same H H9 := u8.trans s9
    have u10 : Same H H10 := u9.trans s10
    have u11 : Same H H11 := u10.trans s11
    have u12 : Same H H12 := u11.trans s12
    have u13 : Same H H13 := u12.trans s13
    have u14 : Same H H14 := u13.trans s14
    have u15 : Same H H15 := u14.trans s15
    have u16 : Same H H16 := u15.trans s16
    have q1 : H p1 = none := f1
    have q2 : H p2 = none := u1.free f2
    have q3 : H p3 = none := u2.free f3
    have q4 : H p4 = none := u3.free f4
    have q5 : H p5 = none := u4.free f5
    have q6 : H p6 = none := u5.free f6
    have q7 : H p7 = none := u6.free f7
    have q8 : H p8 = none := u7.free f8
    have q9 : H p9 = none := u8.free f9
    have q10 : H p10 = none := u9.free f10
    have q11 : H p11 = none := u10.free f11
    have q12 : H p12 = none := u11.free f12
    have q13 : H p13 = none := u12.free f13
    have q14 : H p14 = none := u13.free f14
    have q15 : H p15 = none := u14.free f15
    have q16 : H p16 = none := u15.free f16
    refine ⟨_, _, _, _, rfl, rfl, (t8 _ _ g8), g16, (show _ ≤ sizeLine from by rw [sizeLine_eq]; exact Nat.le_of_ble_eq_true rfl), ?_⟩
    intro p17 H17 f17 s17 g17
    tm_at "rzs"
    intro i HZ dZ lZ uZ
    have hB : ∀ y ∈ _, Bad (badAsk (n : Int)) H H17 y := all_c (bad_tup (r := p1) [.int (0), .int (0), .int (5)] (s17 _ _ (t1 _ _ g1)) rfl rfl q1) <| all_c (bad_tup (r := p2) [.int (0), .int ((n : Int) + 1), .int (5)] (s17 _ _ (t2 _ _ g2)) rfl (ask_b1 _) q2) <| all_c (bad_tup (r := p3) [.int ((n : Int)), .int (1), .int (5)] (s17 _ _ (t3 _ _ g3)) rfl (ask_b2 _) q3) <| all_c (bad_tup (r := p4) [.int (0 - 1), .int (1), .int (5)] (s17 _ _ (t4 _ _ g4)) rfl rfl q4) <| all_c (bad_tup (r := p5) [.int (0), .int (1), .int (0 - 1)] (s17 _ _ (t5 _ _ g5)) rfl (notB (by show (_ && decide ((0 : Int) ≤ 0 - 1)) = false; simp)) q5) <| all_c (bad_tup (r := p6) [.int (0), .int (1)] (s17 _ _ (t6 _ _ g6)) rfl rfl q6) <| all_c (bad_tup (r := p7) [.int (0), .int (1), .int (5), .int (5)] (s17 _ _ (t7 _ _ g7)) rfl rfl q7) <| all_c (bad_fl (.none) rfl rfl) <| all_c (bad_lst (r := p9) [.int (0), .int (1), .int (5)] (s17 _ _ (t9 _ _ g9)) rfl rfl q9) <| all_c (bad_tup (r := p10) [.bool true, .int (1), .int (5)] (s17 _ _ (t10 _ _ g10)) rfl rfl q10) <| all_c (bad_tup (r := p11) [.int (0), .bool true, .int (5)] (s17 _ _ (t11 _ _ g11)) rfl rfl q11) <| all_c (bad_tup (r := p12) [.int (0), .int (1), .bool false] (s17 _ _ (t12 _ _ g12)) rfl (notB (by show (_ && false) = false; simp)) q12) <| all_c (bad_tup (r := p13) [.str "0", .int (1), .int (5)] (s17 _ _ (t13 _ _ g13)) rfl rfl q13) <| all_c (bad_tup (r := p14) [.int (0), .int (1), .none] (s17 _ _ (t14 _ _ g14)) rfl (notB (by show (_ && false) = false; simp)) q14) <| all_c (bad_tup (r := p15) [] (s17 _ _ (t15 _ _ g15)) rfl rfl q15) <| all_c (bad_fl (.int (5)) rfl rfl) <| all_n
    obtain ⟨v, hv, hb⟩ := pick_all' hB lZ uZ
    have uM : Same H H17 := u16.trans s17
    have hsM : Src H17 s := hs.same uM
    have dM : Dr s H H17 := Dr.of hs uM
    have nM : p17 ≠ s := hs.ne (u16.free f17)
    refine ixE (Or.inl (sqL (dZ.app nM g17))) hv ?_
    exact k v HZ (dM.trans dZ) (hb.dr' hs hsM dZ)
end
end My
namespace My
open PySem PySem.Spec PyProof.Rows L2
section
variable {P : Program} {w : World} {K : PySem.W.Frag} {mg : Str → Option Value} {base : Heap}
def sp_w_good : Sp := fun vs H Q _ => ∃ c : Int, vs = [.int c] ∧ ∀ H', Same H H' → Q (.bl true) H'
theorem ok_w_good (T : Tx K mg) : FnOk P w K mg base CX0 7 T.d_w_good.f T.d_w_good.fd ["_law_cell"] (sp_w_good) := by
  refine T.d_w_good.F.ok sc_w_good (fun vs H Q E h => ?_) (fun cdv A outer s H vs Q E hr h => ?_)
  · obtain ⟨c, rfl, _⟩ := h
    rfl
  · obtain ⟨c, rfl, k⟩ := h
    refine ⟨_, (pss_cons (ps_set (i := 1) sc_w_good.nd rfl (Or.inr rfl) (pe_lstA (pa_cons (pv 0) (pa_cons (pv 0) (pa_cons pe_int pa_nil)))))
      (pss_cons (ps_set (i := 2) sc_w_good.nd rfl (Or.inl rfl) (pe_call (ok_w_next T) (hr.mono (by decide)) (by rfl) T.d_w_next.g T.d_w_next.F.kp T.d_w_next.b .nil pass0 (pa_cons (pv 1) (pa_cons pe_int pa_nil))))
      (pss_cons (ps_set (i := 3) sc_w_good.nd rfl (Or.inl rfl) (pe_call (ok_w_next T) (hr.mono (by decide)) (by rfl) T.d_w_next.g T.d_w_next.F.kp T.d_w_next.b .nil pass0 (pa_cons (pv 1) (pa_cons pe_int pa_nil))))
      (pss_cons (ps_set (i := 4) sc_w_good.nd rfl (Or.inl rfl) (pe_op op_add pe_int (pe_call (ok_w_next T) (hr.mono (by decide)) (by rfl) T.d_w_next.g T.d_w_next.F.kp T.d_w_next.b .nil pass0 (pa_cons (pv 1) (pa_cons pe_int pa_nil)))))
      (pss_cons (ps_setLc (i := 6) (own := [("_law_k", 5)]) (g := gName 5) (by rfl) sc_w_good.nd rfl rfl (sw_true rfl rfl rfl (by decide +kernel)) (pi_range1 (by rfl) T.b_range (pa_cons (pv 4) pa_nil)) (blkOk_by (own := [("_law_k", 5)]) (N := N_w_good) (sc := defScope s_w_good) (by decide +kernel)) (fun _ _ _ _ _ => (pg_name (i := 5) sc_w_good.nd rfl (Or.inl rfl))) (fun _ _ _ _ _ => pts_nil) (fun _ _ _ _ _ => (pe_ix (ix_listK (K := K) rfl) (pe_lstA (pa_cons pe_int (pa_cons pe_str (pa_cons (pe_tupA (pa_cons pe_str (pa_cons pe_int pa_nil))) pa_nil)))) (pe_call (ok_w_next T) (hr.mono (by decide)) (by rfl) T.d_w_next.g T.d_w_next.F.kp T.d_w_next.b .nil pass0 (pa_cons (pv 1) (pa_cons pe_int pa_nil))) (fun _ _ => rfl))))
      (pss_cons (ps_set (i := 7) sc_w_good.nd rfl (Or.inl rfl) (pe_lstA pa_nil))
      (pss_cons (ps_for PassesOwn.never (by rfl) (pi_range1 (by rfl) T.b_range (pa_cons (pe_call (ok_w_next T) (hr.mono (by decide)) (by rfl) T.d_w_next.g T.d_w_next.F.kp T.d_w_next.b .nil pass0 (pa_cons (pv 1) (pa_cons pe_int pa_nil))) pa_nil)) (pg_name (i := 5) sc_w_good.nd rfl (Or.inl rfl))
      (pss_cons (ps_set (i := 8) sc_w_good.nd rfl (Or.inl rfl) (pe_call (ok_w_next T) (hr.mono (by decide)) (by rfl) T.d_w_next.g T.d_w_next.F.kp T.d_w_next.b .nil pass0 (pa_cons (pv 1) (pa_cons (pv 4) pa_nil))))
      (pss_one (ps_expr (pe_bm PySem.F.plainAttrs_list PySem.F.slot_list_append PySem.F.type_list_append mt_appendA (pv 7) (pa_cons (pe_tupA (pa_cons (pv 8) (pa_cons (pe_op op_add pe_int (pe_call (ok_w_next T) (hr.mono (by decide)) (by rfl) T.d_w_next.g T.d_w_next.F.kp T.d_w_next.b .nil pass0 (pa_cons (pv 1) (pa_cons (pe_op op_sub (pv 4) (pv 8)) pa_nil)))) (pa_cons (pe_call (ok_w_next T) (hr.mono (by decide)) (by rfl) T.d_w_next.g T.d_w_next.F.kp T.d_w_next.b .nil pass0 (pa_cons (pv 1) (pa_cons pe_int pa_nil))) pa_nil)))) pa_nil))))))
      (pss_cons (ps_set (i := 9) sc_w_good.nd rfl (Or.inl rfl) (pe_call (ok_w_next T) (hr.mono (by decide)) (by rfl) T.d_w_next.g T.d_w_next.F.kp T.d_w_next.b .nil pass0 (pa_cons (pv 1) (pa_cons (pe_op op_pow pe_int pe_int) pa_nil))))
      (pss_cons (ps_set (i := 10) sc_w_good.nd rfl (Or.inl rfl) pe_str)
      (pss_cons (ps_if (pt_cmpR op_eq (pe_op op_fdivW (pv 2) pe_int) pe_int (nomark _))
      (pss_one (ps_par (i := 9) (j := 10) (by rfl) sc_w_good.nd rfl rfl (by decide) rfl rfl (pa_cons (pe_ix (ix_listK (K := K) rfl) (pe_lstA (pa_cons (pe_op op_sub pe_int pe_int) (pa_cons pe_non (pa_cons pe_bl (pa_cons pe_str (pa_cons (pe_lstA (pa_cons pe_int pa_nil)) pa_nil)))))) (pv 3) (fun _ _ => rfl)) (pa_cons pe_str pa_nil)) (by rfl)))
      pss_nil)
      (pss_cons (ps_if (pt_cmpR op_eq (pe_op op_mod (pe_op op_fdivW (pv 2) pe_int) pe_int) pe_int (nomark _))
      (pss_cons (ps_expr (pe_bm PySem.F.plainAttrs_list PySem.F.slot_list_insert PySem.F.type_list_insert mt_insert (pv 7) (pa_cons (pe_call (ok_w_next T) (hr.mono (by decide)) (by rfl) T.d_w_next.g T.d_w_next.F.kp T.d_w_next.b .nil pass0 (pa_cons (pv 1) (pa_cons (pe_op op_add (pe_callB (call_lenK (K := K) rfl) (by rfl) T.b_len (by decide +kernel) (pa_cons (pv 7) pa_nil)) pe_int) pa_nil))) (pa_cons (pe_call (ok_w_bad_ask T) (hr.mono (by decide)) (by rfl) T.d_w_bad_ask.g T.d_w_bad_ask.F.kp T.d_w_bad_ask.b .nil pass0 (pa_cons (pv 1) (pa_cons (pv 4) pa_nil))) pa_nil))))
      (pss_cons (ps_set (i := 10) sc_w_good.nd rfl (Or.inl rfl) pe_str)
      (pss_one (ps_if (pt_cmpR op_eq (pv 3) pe_int (nomark _))
      (pss_one (ps_set (i := 7) sc_w_good.nd rfl (Or.inl rfl) (pe_ix (ix_listK (K := K) rfl) (pe_lstA (pa_cons pe_non (pa_cons (pe_tupA pa_nil) (pa_cons (pe_tupA (pa_cons (pe_tupA (pa_cons pe_int (pa_cons pe_int (pa_cons pe_int pa_nil)))) pa_nil)) (pa_cons pe_int (pa_cons pe_dnewA pa_nil)))))) (pe_call (ok_w_next T) (hr.mono (by decide)) (by rfl) T.d_w_next.g T.d_w_next.F.kp T.d_w_next.b .nil pass0 (pa_cons (pv 1) (pa_cons pe_int pa_nil))) (fun _ _ => rfl))))
      pss_nil))))
      pss_nil)
      (pss_cons (ps_if (pt_cmpR op_eq (pe_op op_mod (pv 2) pe_int) pe_int (nomark _))
      (pss_cons (ps_asg (pe_call (ok_w_bad_track T) (hr.mono (by decide)) (by rfl) T.d_w_bad_track.g T.d_w_bad_track.F.kp T.d_w_bad_track.b .nil pass0 (pa_cons (pv 1) pa_nil)) (pg_sub (pv 6) (pe_call (ok_w_next T) (hr.mono (by decide)) (by rfl) T.d_w_next.g T.d_w_next.F.kp T.d_w_next.b .nil pass0 (pa_cons (pv 1) (pa_cons (pv 4) pa_nil))) set_listA))
      (pss_cons (ps_set (i := 10) sc_w_good.nd rfl (Or.inl rfl) pe_str)
      (pss_one (ps_if (pt_cmpR op_eq (pv 3) pe_int (nomark _))
      (pss_one (ps_set (i := 6) sc_w_good.nd rfl (Or.inl rfl) (pe_ix (ix_listK (K := K) rfl) (pe_lstA (pa_cons (pe_lstA pa_nil) (pa_cons (pe_tupA pa_nil) (pa_cons pe_non (pa_cons (pe_tupA (pa_cons pe_str pa_nil)) (pa_cons pe_str (pa_cons pe_int pa_nil))))))) (pe_call (ok_w_next T) (hr.mono (by decide)) (by rfl) T.d_w_next.g T.d_w_next.F.kp T.d_w_next.b .nil pass0 (pa_cons (pv 1) (pa_cons pe_int pa_nil))) (fun _ _ => rfl))))
      pss_nil))))
      pss_nil)
      (pss_cons (ps_set (i := 11) sc_w_good.nd rfl (Or.inl rfl) (pe_lstA (pa_cons (pv 6) (pa_cons (pv 7) pa_nil))))
      (pss_cons (ps_if (pt_val (pe_callB is_list (by rfl) T.b_isinstance (by decide +kernel) (pa_cons (pv 6) (pa_cons (pe_bltn (v := .ty "list") (by rfl) T.b_list (by decide +kernel) rfl) pa_nil))))
      (pss_one (ps_asg (pe_callTy (call_listK (K := K) rfl) (by rfl) T.b_list (by decide +kernel) (pa_cons (pv 6) pa_nil)) (pg_sub (pv 11) pe_int set_listA)))
      pss_nil)
      (pss_cons (ps_if (pt_val (pe_callB is_list (by rfl) T.b_isinstance (by decide +kernel) (pa_cons (pv 7) (pa_cons (pe_bltn (v := .ty "list") (by rfl) T.b_list (by decide +kernel) rfl) pa_nil))))
      (pss_one (ps_asg (pe_callTy (call_listK (K := K) rfl) (by rfl) T.b_list (by decide +kernel) (pa_cons (pv 7) pa_nil)) (pg_sub (pv 11) pe_int set_listA)))
      pss_nil)
      (pss_one (ps_ret (pe_and (pe_cmpR op_eq (pe_call (ok_w_word T) (hr.mono (by decide)) (by rfl) T.d_w_word.g T.d_w_word.F.kp T.d_w_word.b .nil pass0 (pa_cons (pv 6) (pa_cons (pv 7) (pa_cons (pv 9) pa_nil)))) (pv 10) (nomark _)) (pe_one (pe_cmpR (op_eqVK (K := K) hr.units rfl) (pv 11) (pe_lstA (pa_cons (pv 6) (pa_cons (pv 7) pa_nil))) (nomark _))))))))))))))))))))), ?_⟩
    tm_at "rzs"
    intro s H1 f1 s1 g1
    have hs1 : Src H1 s := ⟨(c, c, 0), g1⟩
    tm_at "rzs"
    intro way H2 d2 l2 u2
    tm_at "rzs"
    intro whole H3 d3 l3 u3
    tm_at "rzs"
    intro n4 H4 d4 l4 u4
    have d14 : Dr s H1 H4 := (d2.trans d3).trans d4
    obtain ⟨cn, hcn⟩ : ∃ m : Nat, 1 + n4 = (m : Int) := ⟨(1 + n4).toNat, by omega⟩
    tm_at "rd"
    dsimp only [gName]
    rw [hcn]
    show tSeq _ _ _ [some (.int c), some (.ref s), some (.int way), some (.int whole), some (.int (cn : Int)), none, none, none, none, none, none, none] H4
    refine ⟨_, rfl, _, rfl, by omega, by omega, fun D hD => lcRo (n := cn) (fun i v H => ∃ t : Tk, TkAt H v t ∧ t.ok) (fun i v Ha Hb acc ⟨t, a, b⟩ g hb => ⟨t, a.but g hb, b⟩) (fun i v Ha Hb ⟨t, a, b⟩ hsa d => ⟨t, a.dr hsa d, b⟩) d4.s hD (by omega) (fun i H' Kt Kf acc hi' dp hacc kk => ?_) (fun us H8 d8 hul hub nD gD => ?_)⟩
    · tm_at "rzs"
      intro pt Ht ft st gt
      tm_at "rzs"
      intro pl Hl fl sl gl
      have dl : Dr s H' Hl := (Dr.of dp.s st).same sl
      have npl : pl ≠ s := (dp.s.same st).ne fl
      tm_at "rzs"
      intro j H9 d9 l9 u9
      obtain ⟨y, hy, t, ht, ok⟩ := pick3 (P := fun v => ∃ t : Tk, TkAt H9 v t ∧ t.ok) (n := j) (a := .int 7) (b := .str "fit") (c := .ref pt) (by omega) (by omega) ⟨.cells 7, rfl, by show (0 : Int) ≤ 7; decide⟩ ⟨.fit, rfl, trivial⟩ ⟨.share 2, ⟨pt, rfl, d9.app (dp.s.ne ft) (sl _ _ gt)⟩, by show (1 : Int) ≤ 2; decide⟩
      refine ⟨_, _, _, _, rfl, rfl, sqL (d9.app npl gl), hy, ?_⟩
      exact kk y H9 (dl.trans d9) ⟨t, ht, ok⟩
    obtain ⟨ts, lus, hts⟩ := pick_list us hub
    have htk : TksAt H8 us ts := ⟨lus, fun i v t a b => (hts i v t a b).1⟩
    have okt : ∀ t ∈ ts, t.ok := fun t ht => by
      obtain ⟨i, hi⟩ := List.getElem?_of_mem ht
      have hil := (List.getElem?_eq_some_iff.mp hi).1
      exact (hts i us[i] t (List.getElem?_eq_getElem (by omega)) hi).2
    have lts : ts.length = cn := by omega
    have ne : ts ≠ [] := fun e => by rw [e] at lts; simp at lts; omega
    have d18 := d14.trans d8
    show tSeq _ _ _ [some (.int c), some (.ref s), some (.int way), some (.int whole), some (.int (cn : Int)), none, some (.ref D), none, none, none, none, none] H8
    tm_at "rzs"
    intro W H9 f9 s9 g9
    have nW : W ≠ s := d8.s.ne f9
    have hs9 := d8.s.same s9
    tm_at "rzs"
    intro mz H10 d10 l10 u10
    have gW10 := d10.app nW g9
    refine ⟨_, rfl, by omega, by omega, ?_⟩
    refine for_range (lo := 0) (n := mz.toNat) (fun i σ H' => ∃ v5 v8 : Option V, ∃ (ys : List V) (qs : List Ask3), σ = [some (.int c), some (.ref s), some (.int way), some (.int whole), some (.int (cn : Int)), v5, some (.ref D), some (.ref W), v8, none, none, none] ∧ Dr s H8 H' ∧ H' W = some (.lst ys) ∧ AsksAt H' ys qs ∧ ys.length = i ∧ ∀ q ∈ qs, AskOk cn q)
      ⟨_, _, [], [], rfl, (Dr.of d8.s s9).trans d10, gW10, ⟨rfl, fun i v q h => by simp at h⟩, rfl, fun q h => by cases h⟩ ?_ ?_
    · rintro i σ H11 hi ⟨v5, v8, ys, qs, rfl, d11, gW, hqs, hly, hqb⟩
      refine ⟨_, rfl, _, rfl, _, _, rfl, d11.s, by omega, by omega, ?_⟩
      intro first H12 d12 l12 u12
      dsimp only [gName]
      tm_at "rzs"
      intro m5 H13 d13 l13 u13
      tm_at "rzs"
      intro size H14 d14' l14 u14
      tm_at "rzs"
      intro pA H15 f15 s15 g15
      have d1114 := (d12.trans d13).trans d14'
      have d1115 := d1114.same s15
      obtain ⟨fn, rfl⟩ : ∃ m : Nat, first = (m : Int) := ⟨first.toNat, by omega⟩
      obtain ⟨mn, hmn⟩ : ∃ m : Nat, 1 + m5 = (m : Int) := ⟨(1 + m5).toNat, by omega⟩
      have g15 : H15 pA = some (.tup [.int (fn : Int), .int (1 + m5), .int size]) := g15
      rw [hmn] at g15
      have okn : AskOk cn (fn, mn, size) := ⟨by show 1 ≤ mn; omega, by show fn + mn ≤ cn; omega, l14⟩
      have gW15 := d1115.app nW gW
      refine ⟨W, _, _, rfl, rfl, gW15, small1000 (by omega), fun H16 b16 g16 => ?_⟩
      refine ⟨_, _, ys ++ [.ref pA], qs ++ [(fn, mn, size)], rfl, Dr.mut (d11.trans d1115) b16 f9 nW.symm, g16, ?_, by rw [List.length_append, hly]; rfl, fun q hq => ?_⟩
      · have : AsksAt H15 (ys ++ [.ref pA]) (qs ++ [(fn, mn, size)]) := (hqs.dr d11.s d1115).snoc ⟨pA, rfl, g15⟩
        exact this.but gW15 b16
      · rcases List.mem_append.mp hq with hq | hq
        · exact hqb q hq
        · rw [List.mem_singleton.mp hq]; exact okn
    rintro σ H11 ⟨v5, v8, ys, qs, rfl, d11, gW, hqs, hly, hqb⟩
    have lqs := hqs.1
    tm_at "rzs"
    intro gap H12 d12 l12 u12
    subst lts
    have d912 := d11.trans d12
    have sH4 : Same H H4 := Same.mut' s1 d14.b f1
    have sH8 : Same H H8 := Same.mut' s1 d18.b f1
    have sH12 : Same H H12 := Same.mut' sH8 d912.b f1
    have fD : H D = none := sH4.free hD
    have fW : H W = none := sH8.free f9
    have nDW : D ≠ W := ne_of_none gD f9
    have gD12 := d912.app nD gD
    have htk12 := htk.dr d8.s d912
    have hqs12 := hqs.dr d11.s d12
    have gW12 := d12.app nW gW
    dsimp only [gName]
    refine seq_key (M := fun σ H' => σ = [some (.int c), some (.ref s), some (.int way), some (.int whole), some (.int (ts.length : Int)), v5, some (.ref D), some (.ref W), v8, some (.int gap), some (.str (dueS 0)), none] ∧ H' = H12) ?_ (fun NN hNN => ?_)
    rotate_left
    · exact hNN _ _ ⟨rfl, rfl⟩
    rintro σ H' ⟨rfl, eH⟩
    obtain rfl : H12 = H' := eH.symm
    refine seq_key (M := fun σ H' => ∃ (g : V) (w : Nat), σ = [some (.int c), some (.ref s), some (.int way), some (.int whole), some (.int (ts.length : Int)), v5, some (.ref D), some (.ref W), v8, some g, some (.str (dueS w)), none] ∧ Same H12 H' ∧ Gw H' g w) ?_ (fun NN hNN => ?_)
    rotate_left
    · tm_at "rzs"
      by_cases e : way / 4 = 1
      · refine iteT' (by rw [int_inj_dec]; exact decide_eq_true e) ?_
        tm_at "rzs"
        intro pa Ha fa sa ga
        tm_at "rzs"
        intro pb Hb fb sb gb
        obtain ⟨x, hx, ty, h7, hn⟩ := pick_all' (P := fun v => ∃ ty, Ty7 Hb v ty ∧ isN v = false) (xs := [.int (0 - 1), .non, .bl true, .str "1", .ref pa]) (n := whole) (all_c ⟨_, .int _, rfl⟩ <| all_c ⟨_, .non, rfl⟩ <| all_c ⟨_, .bl _, rfl⟩ <| all_c ⟨_, .str _, rfl⟩ <| all_c ⟨_, .lst (sb _ _ ga), rfl⟩ all_n) l3 u3
        tm_at "rzs"
        refine ⟨_, _, _, _, rfl, rfl, sqL gb, hx, ?_⟩
        tm_at "rds"
        exact hNN _ _ ⟨x, 3, rfl, sa.trans sb, .inr ⟨rfl, ty, h7, hn⟩⟩
      · refine iteF' (by rw [int_inj_dec]; exact decide_eq_false e) ?_
        exact hNN _ _ ⟨_, 0, rfl, Same.refl _, .inl ⟨rfl, gap, rfl, l12⟩⟩
    rintro σ H13 ⟨g, w, rfl, s13, hg⟩
    refine seq_key (M := fun σ H' => ∃ (a g : V) (w : Nat), σ = [some (.int c), some (.ref s), some (.int way), some (.int whole), some (.int (ts.length : Int)), v5, some (.ref D), some a, v8, some g, some (.str (dueS w)), none] ∧ Same H H' ∧ Src H' s ∧ H' D = some (.lst us) ∧ TksAt H' us ts ∧ Way H' (.ref D) a g w ∧ KindV H' a ∧ a ≠ .ref D ∧ a ≠ .ref s) ?_ (fun NN hNN => ?_)
    rotate_left
    · have sH13 : Same H H13 := sH12.trans s13
      have hs13 : Src H13 s := d12.s.same s13
      have gD13 := s13 _ _ gD12
      have gW13 := s13 _ _ gW12
      have htk13 := htk12.mono s13
      have hqs13 := hqs12.mono s13
      tm_at "rzs"
      by_cases e : way / 2 % 2 = 1
      rotate_left
      · refine iteF' (by rw [int_inj_dec]; exact decide_eq_false e) ?_
        refine hNN _ _ ⟨.ref W, g, w, rfl, sH13, hs13, gD13, htk13, hg.way ⟨⟨D, us, rfl, gD13, htk13⟩, okt, ne, by omega⟩ ⟨⟨W, ys, rfl, gW13, hqs13⟩, hqb, by omega⟩, .lst gW13 (asks_plain hqs13) (by omega), fun z => nDW (by cases z; rfl), fun z => nW (by cases z; rfl)⟩
      refine iteT' (by rw [int_inj_dec]; exact decide_eq_true e) ?_
      refine ⟨_, rfl, .inl ⟨rfl, _, sqL gW13⟩, _, rfl, _, rfl, _, _, rfl, .inl ⟨_, sqL gW13, rfl⟩, _, _, rfl, rfl, _, _, rfl, hs13, by omega, by omega, fun j H14 d14b l14 u14 => ?_⟩
      have hqs14 := hqs13.dr hs13 d14b
      have gW14 := d14b.app nW gW13
      have gD14 := d14b.app nD gD13
      have htk14 := htk13.dr hs13 d14b
      have sH14 : Same H H14 := Same.mut' sH13 d14b.b f1
      refine ⟨_, rfl, _, rfl, s, ts.length, rfl, d14b.s, by omega, by omega, fun v H15 d15 ⟨d, hv, hbad, hfr⟩ => ?_⟩
      have hqs15 := hqs14.dr d14b.s d15
      have gW15 := d15.app nW gW14
      have gD15 := d15.app nD gD14
      have htk15 := htk14.dr d14b.s d15
      have sH15 : Same H H15 := Same.mut' sH14 d15.b f1
      refine ⟨W, ys, j, v, rfl, rfl, gW15, small1000 (by omega), l14, by omega, ?_⟩
      generalize hH : upd H15 W (.lst (ys.take j.toNat ++ [v] ++ ys.drop j.toNat)) = H16
      have b16 : But W H15 H16 := hH ▸ But.upd But.refl
      have g16 : H16 W = some (.lst (ys.take j.toNat ++ [v] ++ ys.drop j.toNat)) := hH ▸ upd_same
      have hs16 : Src H16 s := d15.s.but b16 nW.symm
      have gD16 := b16.app nDW gD15
      have htk16 := htk15.but gW15 b16
      have sH16 : Same H H16 := Same.mut' sH15 b16 fW
      have nvW : v ≠ .ref W := fun z => by rw [hfr W z] at gW14; cases gW14
      have its0 := asks_its (hqs15.but gW15 b16)
      have its : ItsAt H16 (ys.take j.toNat ++ [v] ++ ys.drop j.toNat) ((qs.map askD).take j.toNat ++ [d] ++ (qs.map askD).drop j.toNat) := ((its0.take _).append (.one (hv.but b16 nvW))).append (its0.drop _)
      have hbd : askB (ts.length : Int) d = false := by simpa [badAsk] using hbad
      have lW : (ys.take j.toNat ++ [v] ++ ys.drop j.toNat).length ≤ 1000 := by
        simp only [List.length_append, List.length_take, List.length_drop, List.length_singleton]; omega
      have hB : AsksB H16 (ts.length : Int) (.ref W) false := .lst g16 its (by rw [← its.1]; exact lW) (all_ins hbd)
      have kW : KindV H16 (.ref W) := .lst g16 its.kind (by omega)
      have naW : V.ref W ≠ .ref D := fun z => nDW (by cases z; rfl)
      have nsW : V.ref W ≠ .ref s := fun z => nW (by cases z; rfl)
      refine seq_key (M := fun σ H' => σ = [some (.int c), some (.ref s), some (.int way), some (.int whole), some (.int (ts.length : Int)), v5, some (.ref D), some (.ref W), v8, some g, some (.str (dueS w)), none] ∧ H' = H16) ?_ (fun N2 hN2 => ?_)
      rotate_left
      · exact hN2 _ _ ⟨rfl, rfl⟩
      rintro σ H' ⟨rfl, eH⟩
      obtain rfl : H16 = H' := eH.symm
      tm_at "rzs"
      by_cases e0 : whole = 0
      rotate_left
      · refine iteF' (by rw [int_inj_dec]; exact decide_eq_false e0) ?_
        exact hNN _ _ ⟨.ref W, g, 2, rfl, sH16, hs16, gD16, htk16, .ask ⟨⟨D, us, rfl, gD16, htk16⟩, okt, ne, by omega⟩ hB, kW, naW, nsW⟩
      refine iteT' (by rw [int_inj_dec]; exact decide_eq_true e0) ?_
      tm_at "rzs"
      intro pa Ha fa sa ga
      tm_at "rzs"
      intro pb Hb fb sb gb
      tm_at "rzs"
      intro pc Hc fc sc gc
      tm_at "rzs"
      intro pd Hd fd sd gd
      tm_at "rzs"
      intro pe He fe se ge
      have tc : Same Hc He := sd.trans se
      have tb : Same Hb He := sc.trans tc
      have ta : Same Ha He := sb.trans tb
      have t16 : Same H16 He := sa.trans ta
      have hse := hs16.same t16
      have npe : pe ≠ s := (hs16.same (sa.trans (sb.trans (sc.trans sd)))).ne fe
      tm_at "rzs"
      intro i6 HZ dZ lZ uZ
      obtain ⟨x, hx, ty, h7, hn, hf⟩ := pick_all' (P := fun v => ∃ ty, Ty7 He v ty ∧ ty ≠ "list" ∧ ∀ r, v = .ref r → H16 r = none) (xs := [.non, .ref pa, .ref pc, .int 5, .ref pd]) (n := i6)
        (all_c ⟨_, .non, by decide, fun r z => by cases z⟩ <| all_c ⟨_, .tup (ta _ _ ga), by decide, fun r z => by cases z; exact fa⟩ <| all_c ⟨_, .tup (tc _ _ gc), by decide, fun r z => by cases z; exact (sa.trans sb).free fc⟩ <| all_c ⟨_, .int _, by decide, fun r z => by cases z⟩ <| all_c ⟨_, .dK (se _ _ gd), by decide, fun r z => by cases z; exact (sa.trans (sb.trans sc)).free fd⟩ all_n) lZ uZ
      refine ⟨_, _, _, _, rfl, rfl, sqL (dZ.app npe ge), hx, ?_⟩
      have nxs : x ≠ .ref s := fun z => by
        obtain ⟨q, hq⟩ := hs16
        rw [hf s z] at hq; cases hq
      have nxD : x ≠ .ref D := fun z => by rw [hf D z] at gD16; cases gD16
      have hZ7 := h7.but dZ.b nxs
      have gDZ := dZ.app nD (t16 _ _ gD16)
      have htkZ := (htk16.mono t16).dr hse dZ
      exact hNN _ _ ⟨x, g, 2, rfl, Same.mut' (sH16.trans t16) dZ.b f1, dZ.s, gDZ, htkZ, .ask ⟨⟨D, us, rfl, gDZ, htkZ⟩, okt, ne, by omega⟩ (.no hZ7 hn), .no hZ7 hn, nxD, nxs⟩
    rintro σ H17 ⟨a, g, w, rfl, sH17, hs17, gD17, htk17, hw17, ka17, naD, nas⟩
    refine seq_key (M := fun σ H' => ∃ (t a g : V) (w : Nat), σ = [some (.int c), some (.ref s), some (.int way), some (.int whole), some (.int (ts.length : Int)), v5, some t, some a, v8, some g, some (.str (dueS w)), none] ∧ Same H H' ∧ Way H' t a g w ∧ KindV H' t ∧ KindV H' a) ?_ (fun NN hNN => ?_)
    rotate_left
    · tm_at "rzs"
      by_cases e : way % 2 = 1
      rotate_left
      · refine iteF' (by rw [int_inj_dec]; exact decide_eq_false e) ?_
        exact hNN _ _ ⟨.ref D, a, g, w, rfl, sH17, hw17, .lst gD17 (tks_plain htk17) (by omega), ka17⟩
      refine iteT' (by rw [int_inj_dec]; exact decide_eq_true e) ?_
      tm_at "rzs"
      refine fun v H18 d18 ⟨d, hv, hbad, hfr⟩ => ?_
      have gD18 := d18.app nD gD17
      have htk18 := htk17.dr hs17 d18
      have sH18 : Same H H18 := Same.mut' sH17 d18.b f1
      refine ⟨_, rfl, _, rfl, _, rfl, _, _, rfl, d18.s, by omega, by omega, fun j H19 d19 l19 u19 => ?_⟩
      have gD19 := d19.app nD gD18
      have htk19 := htk18.dr d18.s d19
      have sH19 : Same H H19 := Same.mut' sH18 d19.b f1
      have nvs : v ≠ .ref s := fun z => by
        obtain ⟨q, hq⟩ := hs17
        rw [hfr s z] at hq; cases hq
      have nvD : v ≠ .ref D := fun z => by rw [hfr D z] at gD17; cases gD17
      have hv19 := hv.but d19.b nvs
      obtain ⟨jn, rfl⟩ : ∃ m : Nat, j = (m : Int) := ⟨j.toNat, by omega⟩
      refine ⟨D, us, (jn : Int), jn, rfl, rfl, gD19, ixN_nat (by omega), fun H20 b20 g20 => ?_⟩
      have sH20 : Same H H20 := Same.mut' sH19 b20 fD
      have hs20 : Src H20 s := d19.s.but b20 nD.symm
      have ka20 : KindV H20 a := ((ka17.but d18.b nas).but d19.b nas).but b20 naD
      have its : ItsAt H20 (us.set jn v) ((ts.map tkD).set jn d) := (tks_its (htk19.but gD19 b20)).set jn (hv19.but b20 nvD)
      obtain ⟨fd, td⟩ := bad_fine hbad
      have hT : TrsAt H20 (.ref D) false := by
        refine .lst g20 its (fun x hx => ?_) (by rw [List.length_set, List.length_map]; omega) (all_set (by rw [List.length_map]; omega) td)
        rcases List.mem_or_eq_of_mem_set hx with h | h
        · obtain ⟨t, _, rfl⟩ := List.mem_map.mp h
          exact tk_fine t
        · rw [h]; exact fd
      have kD : KindV H20 (.ref D) := .lst g20 its.kind (by rw [List.length_set]; omega)
      refine seq_key (M := fun σ H' => σ = [some (.int c), some (.ref s), some (.int way), some (.int whole), some (.int (ts.length : Int)), v5, some (.ref D), some a, v8, some g, some (.str (dueS w)), none] ∧ H' = H20) ?_ (fun N2 hN2 => ?_)
      rotate_left
      · exact hN2 _ _ ⟨rfl, rfl⟩
      rintro σ H' ⟨rfl, eH⟩
      obtain rfl : H20 = H' := eH.symm
      tm_at "rzs"
      by_cases e0 : whole = 1
      rotate_left
      · refine iteF' (by rw [int_inj_dec]; exact decide_eq_false e0) ?_
        exact hNN _ _ ⟨.ref D, a, g, 1, rfl, sH20, .track hT, kD, ka20⟩
      refine iteT' (by rw [int_inj_dec]; exact decide_eq_true e0) ?_
      tm_at "rzs"
      intro pa Ha fa sa ga
      tm_at "rzs"
      intro pb Hb fb sb gb
      tm_at "rzs"
      intro pc Hc fc sc gc
      tm_at "rzs"
      intro pe He fe se ge
      have tb : Same Hb He := sc.trans se
      have ta : Same Ha He := sb.trans tb
      have t20 : Same H20 He := sa.trans ta
      have hse := hs20.same t20
      have npa : pa ≠ s := hs20.ne fa
      have npb : pb ≠ s := (hs20.same sa).ne fb
      have npc : pc ≠ s := (hs20.same (sa.trans sb)).ne fc
      have npe : pe ≠ s := (hs20.same (sa.trans (sb.trans sc))).ne fe
      tm_at "rzs"
      intro i6 HZ dZ lZ uZ
      have no : ∀ {v : V} {ty : String}, Ty7 HZ v ty → ty ≠ "list" → TrsAt HZ v false ∧ KindV HZ v := fun h n => ⟨.no h n, .no h n⟩
      obtain ⟨x, hx, hxT, hxK⟩ := pick_all' (P := fun v => TrsAt HZ v false ∧ KindV HZ v) (xs := [.ref pa, .ref pb, .non, .ref pc, .str "fit", .int 5]) (n := i6)
        (all_c ⟨.lst (xs := []) (ds := []) (dZ.app npa (ta _ _ ga)) ⟨rfl, fun i v d a => by cases a⟩ (fun d h => by cases h) (by decide) rfl, .lst (dZ.app npa (ta _ _ ga)) (fun x h => by cases h) (by decide)⟩ <| all_c (no (.tup (dZ.app npb (tb _ _ gb))) (by decide)) <| all_c (no .non (by decide)) <| all_c (no (.tup (dZ.app npc (se _ _ gc))) (by decide)) <| all_c (no (.str _) (by decide)) <| all_c (no (.int _) (by decide)) all_n) lZ uZ
      refine ⟨_, _, _, _, rfl, rfl, sqL (dZ.app npe ge), hx, ?_⟩
      exact hNN _ _ ⟨x, a, g, 1, rfl, Same.mut' (sH20.trans t20) dZ.b f1, .track hxT, hxK, (ka20.mono t20).but dZ.b nas⟩
    rintro σ H21 ⟨t, a, g, w, rfl, sH21, hw, kt, ka⟩
    tm_at "rzs"
    intro p H22 f22 s22 g22
    have sp0 : ∀ {b : Addr} {o : HO}, H21 b = some o → b ≠ p := fun hb => ne_of_none hb f22
    have fp : H p = none := sH21.free f22
    refine seq_key (M := fun σ H' => σ = [some (.int c), some (.ref s), some (.int way), some (.int whole), some (.int (ts.length : Int)), v5, some t, some a, v8, some g, some (.str (dueS w)), some (.ref p)] ∧ H' = H22) ?_ (fun NN hNN => ?_)
    rotate_left
    · exact hNN _ _ ⟨rfl, rfl⟩
    rintro σ H' ⟨rfl, eH⟩
    obtain rfl : H22 = H' := eH.symm
    refine seq_key (M := fun σ H' => ∃ k0, σ = [some (.int c), some (.ref s), some (.int way), some (.int whole), some (.int (ts.length : Int)), v5, some t, some a, v8, some g, some (.str (dueS w)), some (.ref p)] ∧ Same H21 H' ∧ H' p = some (.lst [k0, a]) ∧ Cp H' p k0 t) ?_ (fun NN hNN => ?_)
    rotate_left
    · cases kt with
      | no h n =>
        have h' := h.mono s22
        tm_at "rzs"
        refine iteF' (decide_eq_false n) ?_
        exact hNN _ _ ⟨t, rfl, s22, g22, .inl rfl⟩
      | @lst b xs gb pb lb =>
        have gb' := s22 _ _ gb
        have nbp : b ≠ p := sp0 gb
        tm_at "rzs"
        refine ⟨b, _, rfl, .inl (sqL gb'), fun q Hq fq sq gq => ?_⟩
        have nqp : q ≠ p := (ne_of_none g22 fq).symm
        tm_at "rzs"
        refine ⟨p, _, 0, 0, rfl, rfl, sq _ _ g22, rfl, fun Hr br gr => ?_⟩
        exact hNN _ _ ⟨.ref q, rfl, Same.mut' (s22.trans sq) br f22, gr, .inr ⟨q, b, xs, rfl, rfl, nqp, nbp, br.app nqp gq, br.app nbp (sq _ _ gb')⟩⟩
    rintro σ H23 ⟨k0, rfl, s23, g23, cp0⟩
    refine seq_key (M := fun σ H' => ∃ k1, σ = [some (.int c), some (.ref s), some (.int way), some (.int whole), some (.int (ts.length : Int)), v5, some t, some a, v8, some g, some (.str (dueS w)), some (.ref p)] ∧ Same H21 H' ∧ H' p = some (.lst [k0, k1]) ∧ Cp H' p k0 t ∧ Cp H' p k1 a) ?_ (fun NN hNN => ?_)
    rotate_left
    · cases ka with
      | no h n =>
        have h' := h.mono s23
        tm_at "rzs"
        refine iteF' (decide_eq_false n) ?_
        exact hNN _ _ ⟨a, rfl, s23, g23, cp0, .inl rfl⟩
      | @lst b xs gb pb lb =>
        have gb' := s23 _ _ gb
        have nbp : b ≠ p := sp0 gb
        tm_at "rzs"
        refine ⟨b, _, rfl, .inl (sqL gb'), fun q Hq fq sq gq => ?_⟩
        have nqp : q ≠ p := (ne_of_none g23 fq).symm
        tm_at "rzs"
        refine ⟨p, _, 1, 1, rfl, rfl, sq _ _ g23, rfl, fun Hr br gr => ?_⟩
        exact hNN _ _ ⟨.ref q, rfl, Same.mut' (s23.trans sq) br f22, gr, (cp0.mono sq).but br, .inr ⟨q, b, xs, rfl, rfl, nqp, nbp, br.app nqp gq, br.app nbp (sq _ _ gb')⟩⟩
    rintro σ H24 ⟨k1, rfl, s24, g24, cp0, cp1⟩
    tm_at "rzs"
    refine ⟨t, a, g, w, rfl, hw.mono s24, fun H25 s25 => ?_⟩
    tm_at "rzs"
    refine iteT' (decide_eq_true rfl) ?_
    tm_at "rzs"
    intro q H26 f26 s26 g26
    have s246 := s25.trans s26
    refine ⟨2, by decide, .inl ⟨p, q, _, _, rfl, rfl, sqL (s246 _ _ g24), sqL g26, .cons (cp_eq (cp0.mono s246) (kt.mono (s24.trans s246))) (.cons (cp_eq (cp1.mono s246) (ka.mono (s24.trans s246))) .nil)⟩, ?_⟩
    exact k _ (sH21.trans (s24.trans s246))
end
end My
namespace My
open PySem PySem.Spec PyProof.Rows L2
section
variable {P : Program} {w : World} {K : PySem.W.Frag} {mg : Str → Option Value} {base : Heap}
def sp_law (K : PySem.W.Frag) : Sp := fun vs H Q _ => ∃ (a : Addr) (ns : List Int), vs = [.ref a] ∧ SqL K H a (ns.map V.int) ∧ ns.length ≤ 63 ∧ ∀ H', Q (.bl true) H'
theorem ok_law (T : Tx K mg) : FnOk P w K mg base CX0 8 T.d_law.f T.d_law.fd ["_law_script"] (sp_law K) := by
  refine T.d_law.F.ok sc_law (fun vs H Q E h => ?_) (fun cdv A outer s H vs Q E hr h => ?_)
  · obtain ⟨a, s, rfl, _⟩ := h
    rfl
  · obtain ⟨a, ns, rfl, hS, hl, k⟩ := h
    refine ⟨_, (pss_one (ps_ret (pe_callB (cr_allK (K := K) rfl rfl) (by rfl) T.b_all (by decide +kernel) (pa_cons (pe_lc (own := [("_law_cell", 1)]) (g := gName 1) (by rfl) sc_law.nd (pi_listK (K := K) rfl (pe_op (op_catK (K := K) rfl) (pe_lstA (pa_cons (pe_call (ok_w_cell_at T) (hr.mono (by decide)) (by rfl) T.d_w_cell_at.g T.d_w_cell_at.F.kp T.d_w_cell_at.b .nil pass0 (pa_cons (pv 0) (pa_cons pe_int pa_nil))) pa_nil)) (pe_slice (sl_listK (K := K) rfl) (pv 0) (po_some pe_int) (po_some pe_int)))) (blkOk_by (own := [("_law_cell", 1)]) (N := N_law) (sc := defScope s_law) (by decide +kernel)) (fun _ _ _ _ _ => (pg_name (i := 1) sc_law.nd rfl (Or.inl rfl))) (fun _ _ _ _ _ => pts_nil) (fun _ _ _ _ _ => (pe_call (ok_w_good T) (hr.mono (by decide)) (by rfl) T.d_w_good.g T.d_w_good.F.kp T.d_w_good.b .nil pass0 (pa_cons (pv 1) pa_nil)))) pa_nil)))), ?_⟩
    tm_at "rzs"
    intro p0 G0 f0 S0 g0
    tm_at "rzs"
    refine ⟨a, _, rfl, S0.seq hS, ?_⟩
    intro p1 G1 f1 S1 g1
    refine ⟨_, _, _, _, rfl, rfl, S1 _ _ g0, g1, cells_len hl, ?_⟩
    intro p2 G2 f2 S2 g2
    generalize hcs : ([V.int (ns.headD 0)] ++ cutV (ns.map V.int) (some 1) (some 8)) = cells at g2
    have hci : ∀ i y, cells[i]? = some y → ∃ z, y = V.int z := fun i y h => cells_ints (by rw [hcs]; exact h)
    have hcl : cells.length ≤ 1000 := by
      rw [← hcs]
      have h1 := cutV_length (ns.map V.int) (some 1) (some 8)
      rw [List.length_map] at h1
      rw [List.length_append]
      have : [V.int (ns.headD 0)].length = 1 := rfl
      omega
    refine ⟨p2, rfl, ⟨_, sqL g2⟩, fun D hD => lcLx (K := K) (xs := cells) (fun _ => .bl true) hD (sqL g2) (by omega) (fun i x H1 Kt Kf hx s1 kk => ?_) (fun H1 s1 g3 => ?_)⟩
    · obtain ⟨z, rfl⟩ := hci i x hx
      tm_at "rzs"
      exact fun H2 s2 => kk H2 s2
    rw [bls _ fun _ => true] at g3
    tm_at "rzs"
    refine ⟨D, _, rfl, sqL g3, ?_⟩
    rw [all_true]
    exact k _
end
end My
namespace My
open PySem L2
theorem law_end {l : PySem.W.OpenLaw} {w : World} {K : PySem.W.Frag} {mg : Str → Option Value} {fa : Addr} (hfa : mg "law" = some (.ref fa)) (T : Tx K mg) :
    ∃ fd : FuncData, (∀ (s : Shared) (v : Value), BindsTo s fd ⟨[v], []⟩ [("_law_script", v)]) ∧ ∀ base : Heap, K.In base → base.Ns mainGlobals mg → FnOk l.prog w K mg base CX0 8 fa fd ["_law_script"] (sp_law K) := by
  have e := hfa.symm.trans T.d_law.g
  cases e
  refine ⟨T.d_law.fd, fun s v => ?_, fun base _ _ => ok_law T⟩
  obtain ⟨oc, od, kV, doc, pm, an, cdv, ct, osl, e, _, _⟩ := T.d_law.F.ex
  rw [e]
  exact .of_eq rfl
end My
open PySem PySem.W PyProof.Rows
set_option maxRecDepth 100000 in
set_option maxHeartbeats 0 in
theorem PySem.Challenge.cw_nestlaid_k31_what_are_no_tracks_holds : PySem.Challenge.rw_nestlaid_k31_what_are_no_tracks.Holds := by
  w_on; o_law; k_head; (case hw => w_witness2)
  k_fill
  refine L2.walk_of (l := PySem.Challenge.rw_nestlaid_k31_what_are_no_tracks) (n := 63) (k := 8) (x := "_law_script") (CX := fun _ => L2.CX0) (sp := fun w => My.sp_law _) rfl (by decide) rfl ⟨rfl, by decide, by decide⟩ (fun w h Y => PySem.W.kIn_of Y) ?F (fun _ _ a ns hl _ hS => ⟨a, ns, rfl, hS, hl, fun _ => rfl⟩) (fun _ _ _ _ _ h => h)
  case F =>
    intro w mg fa h KX G hmg
    refine' My.law_end hmg { d_is_whole := My.df_mk KX G ?a1 ?l1 ?c1 ?k1 (fun _ _ _ _ _ _ us hl => match us, hl with | [_], _ => rfl), d_is_count := My.df_mk KX G ?a2 ?l2 ?c2 ?k2 (fun _ _ _ _ _ _ us hl => match us, hl with | [_], _ => rfl), d_is_share := My.df_mk KX G ?a3 ?l3 ?c3 ?k3 (fun _ _ _ _ _ _ us hl => match us, hl with | [_], _ => rfl), d_is_track := My.df_mk KX G ?a4 ?l4 ?c4 ?k4 (fun _ _ _ _ _ _ us hl => match us, hl with | [_], _ => rfl), d_are_tracks := My.df_mk KX G ?a5 ?l5 ?c5 ?k5 (fun _ _ _ _ _ _ us hl => match us, hl with | [_], _ => rfl), d_is_stretch := My.df_mk KX G ?a6 ?l6 ?c6 ?k6 (fun _ _ _ _ _ _ us hl => match us, hl with | [_, _, _], _ => rfl), d_is_ask := My.df_mk KX G ?a7 ?l7 ?c7 ?k7 (fun _ _ _ _ _ _ us hl => match us, hl with | [_, _], _ => rfl), d_track_sizes := My.df_mk KX G ?a8 ?l8 ?c8 ?k8 (fun _ _ _ _ _ _ us hl => match us, hl with | [_, _, _], _ => rfl), d_told_cells := My.df_mk KX G ?a9 ?l9 ?c9 ?k9 (fun _ _ _ _ _ _ us hl => match us, hl with | [_], _ => rfl), d_track_parts := My.df_mk KX G ?a10 ?l10 ?c10 ?k10 (fun _ _ _ _ _ _ us hl => match us, hl with | [_, _, _], _ => rfl), d_grow_for := My.df_mk KX G ?a11 ?l11 ?c11 ?k11 (fun _ _ _ _ _ _ us hl => match us, hl with | [_, _, _, _], _ => rfl), d_w_cell_at := My.df_mk KX G ?a12 ?l12 ?c12 ?k12 (fun _ _ _ _ _ _ us hl => match us, hl with | [_, _], _ => rfl), d_w_mixed := My.df_mk KX G ?a13 ?l13 ?c13 ?k13 (fun _ _ _ _ _ _ us hl => match us, hl with | [_, _], _ => rfl), d_w_next := My.df_mk KX G ?a14 ?l14 ?c14 ?k14 (fun _ _ _ _ _ _ us hl => match us, hl with | [_, _], _ => rfl), d_w_word := My.df_mk KX G ?a15 ?l15 ?c15 ?k15 (fun _ _ _ _ _ _ us hl => match us, hl with | [_, _, _], _ => rfl), d_w_bad_track := My.df_mk KX G ?a16 ?l16 ?c16 ?k16 (fun _ _ _ _ _ _ us hl => match us, hl with | [_], _ => rfl), d_w_bad_ask := My.df_mk KX G ?a17 ?l17 ?c17 ?k17 (fun _ _ _ _ _ _ us hl => match us, hl with | [_, _], _ => rfl), d_w_good := My.df_mk KX G ?a18 ?l18 ?c18 ?k18 (fun _ _ _ _ _ _ us hl => match us, hl with | [_], _ => rfl), d_law := My.df_mk KX G ?a19 ?l19 ?c19 ?k19 (fun _ _ _ _ _ _ us hl => match us, hl with | [_], _ => rfl), b_ValueError := PySem.W.mg_none_of KX G ?z_ValueError, b_all := PySem.W.mg_none_of KX G ?z_all, b_bool := PySem.W.mg_none_of KX G ?z_bool, b_enumerate := PySem.W.mg_none_of KX G ?z_enumerate, b_int := PySem.W.mg_none_of KX G ?z_int, b_isinstance := PySem.W.mg_none_of KX G ?z_isinstance, b_len := PySem.W.mg_none_of KX G ?z_len, b_list := PySem.W.mg_none_of KX G ?z_list, b_max := PySem.W.mg_none_of KX G ?z_max, b_range := PySem.W.mg_none_of KX G ?z_range, b_str := PySem.W.mg_none_of KX G ?z_str, b_sum := PySem.W.mg_none_of KX G ?z_sum, b_tuple := PySem.W.mg_none_of KX G ?z_tuple, b_zip := PySem.W.mg_none_of KX G ?z_zip, e_NestError := My.ex_mk KX G ?eNestError0 ?eNestError1 ?eNestError2 ?eNestError3 ?eNestError4 ?eNestError5 ?eNestError6 ?eNestError7 ?eNestError8 ?eNestError9 ?eNestError10 ?eNestError11, e_NoTrack := My.ex_mk KX G ?eNoTrack0 ?eNoTrack1 ?eNoTrack2 ?eNoTrack3 ?eNoTrack4 ?eNoTrack5 ?eNoTrack6 ?eNoTrack7 ?eNoTrack8 ?eNoTrack9 ?eNoTrack10 ?eNoTrack11, e_NoAsk := My.ex_mk KX G ?eNoAsk0 ?eNoAsk1 ?eNoAsk2 ?eNoAsk3 ?eNoAsk4 ?eNoAsk5 ?eNoAsk6 ?eNoAsk7 ?eNoAsk8 ?eNoAsk9 ?eNoAsk10 ?eNoAsk11, e_NoNumber := My.ex_mk KX G ?eNoNumber0 ?eNoNumber1 ?eNoNumber2 ?eNoNumber3 ?eNoNumber4 ?eNoNumber5 ?eNoNumber6 ?eNoNumber7 ?eNoNumber8 ?eNoNumber9 ?eNoNumber10 ?eNoNumber11, r_NoTrack := ?r_NoTrack, v_NoTrack := ?v_NoTrack, i_NoTrack_NoTrack := ?i_NoTrack_NoTrack, i_NoTrack_NoAsk := ?i_NoTrack_NoAsk, i_NoTrack_NoNumber := ?i_NoTrack_NoNumber, r_NoAsk := ?r_NoAsk, v_NoAsk := ?v_NoAsk, i_NoAsk_NoTrack := ?i_NoAsk_NoTrack, i_NoAsk_NoAsk := ?i_NoAsk_NoAsk, i_NoAsk_NoNumber := ?i_NoAsk_NoNumber, r_NoNumber := ?r_NoNumber, v_NoNumber := ?v_NoNumber, i_NoNumber_NoTrack := ?i_NoNumber_NoTrack, i_NoNumber_NoAsk := ?i_NoNumber_NoAsk, i_NoNumber_NoNumber := ?i_NoNumber_NoNumber }
    (case a1 => k_is)
    (case l1 => k_is)
    (case c1 => k_is)
    (case k1 => k_is)
    (case a2 => k_is)
    (case l2 => k_is)
    (case c2 => k_is)
    (case k2 => k_is)
    (case a3 => k_is)
    (case l3 => k_is)
    (case c3 => k_is)
    (case k3 => k_is)
    (case a4 => k_is)
    (case l4 => k_is)
    (case c4 => k_is)
    (case k4 => k_is)
    (case a5 => k_is)
    (case l5 => k_is)
    (case c5 => k_is)
    (case k5 => k_is)
    (case a6 => k_is)
    (case l6 => k_is)
    (case c6 => k_is)
    (case k6 => k_is)
    (case a7 => k_is)
    (case l7 => k_is)
    (case c7 => k_is)
    (case k7 => k_is)
    (case a8 => k_is)
    (case l8 => k_is)
    (case c8 => k_is)
    (case k8 => k_is)
    (case a9 => k_is)
    (case l9 => k_is)
    (case c9 => k_is)
    (case k9 => k_is)
    (case a10 => k_is)
    (case l10 => k_is)
    (case c10 => k_is)
    (case k10 => k_is)
    (case a11 => k_is)
    (case l11 => k_is)
    (case c11 => k_is)
    (case k11 => k_is)
    (case a12 => k_is)
    (case l12 => k_is)
    (case c12 => k_is)
    (case k12 => k_is)
    (case a13 => k_is)
    (case l13 => k_is)
    (case c13 => k_is)
    (case k13 => k_is)
    (case a14 => k_is)
    (case l14 => k_is)
    (case c14 => k_is)
    (case k14 => k_is)
    (case a15 => k_is)
    (case l15 => k_is)
    (case c15 => k_is)
    (case k15 => k_is)
    (case a16 => k_is)
    (case l16 => k_is)
    (case c16 => k_is)
    (case k16 => k_is)
    (case a17 => k_is)
    (case l17 => k_is)
    (case c17 => k_is)
    (case k17 => k_is)
    (case a18 => k_is)
    (case l18 => k_is)
    (case c18 => k_is)
    (case k18 => k_is)
    (case a19 => k_is)
    (case l19 => k_is)
    (case c19 => k_is)
    (case k19 => k_is)
    (case z_ValueError => k_is)
    (case z_all => k_is)
    (case z_bool => k_is)
    (case z_enumerate => k_is)
    (case z_int => k_is)
    (case z_isinstance => k_is)
    (case z_len => k_is)
    (case z_list => k_is)
    (case z_max => k_is)
    (case z_range => k_is)
    (case z_str => k_is)
    (case z_sum => k_is)
    (case z_tuple => k_is)
    (case z_zip => k_is)
    (case eNestError0 => k_is)
    (case eNestError1 => k_exc)
    (case eNestError2 => k_is)
    (case eNestError3 => k_is)
    (case eNestError4 => k_is)
    (case eNestError5 => k_is)
    (case eNestError6 => k_is)
    (case eNestError7 => k_is)
    (case eNestError8 => k_is)
    (case eNestError9 => k_is)
    (case eNestError10 => k_is)
    (case eNestError11 => k_is)
    (case eNoTrack0 => k_is)
    (case eNoTrack1 => k_exc)
    (case eNoTrack2 => k_is)
    (case eNoTrack3 => k_is)
    (case eNoTrack4 => k_is)
    (case eNoTrack5 => k_is)
    (case eNoTrack6 => k_is)
    (case eNoTrack7 => k_is)
    (case eNoTrack8 => k_is)
    (case eNoTrack9 => k_is)
    (case eNoTrack10 => k_is)
    (case eNoTrack11 => k_is)
    (case eNoAsk0 => k_is)
    (case eNoAsk1 => k_exc)
    (case eNoAsk2 => k_is)
    (case eNoAsk3 => k_is)
    (case eNoAsk4 => k_is)
    (case eNoAsk5 => k_is)
    (case eNoAsk6 => k_is)
    (case eNoAsk7 => k_is)
    (case eNoAsk8 => k_is)
    (case eNoAsk9 => k_is)
    (case eNoAsk10 => k_is)
    (case eNoAsk11 => k_is)
    (case eNoNumber0 => k_is)
    (case eNoNumber1 => k_exc)
    (case eNoNumber2 => k_is)
    (case eNoNumber3 => k_is)
    (case eNoNumber4 => k_is)
    (case eNoNumber5 => k_is)
    (case eNoNumber6 => k_is)
    (case eNoNumber7 => k_is)
    (case eNoNumber8 => k_is)
    (case eNoNumber9 => k_is)
    (case eNoNumber10 => k_is)
    (case eNoNumber11 => k_is)
    (case r_NoTrack => dsimp only [My.ex_mk]; k_is)
    (case v_NoTrack => dsimp only [My.ex_mk]; k_is)
    (case i_NoTrack_NoTrack => dsimp only [My.ex_mk]; k_is)
    (case i_NoTrack_NoAsk => dsimp only [My.ex_mk]; k_is)
    (case i_NoTrack_NoNumber => dsimp only [My.ex_mk]; k_is)
    (case r_NoAsk => dsimp only [My.ex_mk]; k_is)
    (case v_NoAsk => dsimp only [My.ex_mk]; k_is)
    (case i_NoAsk_NoTrack => dsimp only [My.ex_mk]; k_is)
    (case i_NoAsk_NoAsk => dsimp only [My.ex_mk]; k_is)
    (case i_NoAsk_NoNumber => dsimp only [My.ex_mk]; k_is)
    (case r_NoNumber => dsimp only [My.ex_mk]; k_is)
    (case v_NoNumber => dsimp only [My.ex_mk]; k_is)
    (case i_NoNumber_NoTrack => dsimp only [My.ex_mk]; k_is)
    (case i_NoNumber_NoAsk => dsimp only [My.ex_mk]; k_is)
    (case i_NoNumber_NoNumber => dsimp only [My.ex_mk]; k_is)
#print axioms PySem.Challenge.cw_nestlaid_k31_what_are_no_tracks_holds
