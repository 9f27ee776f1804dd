import PyProof.Rows.All
import Wide.All
import OpenK.AllK
import Wide.FinOn
import HandS.ForMost
import HandS.ForExc
import HandS.Wide
import HandS.IsInst
import HandS.Defaults
import HandS.MakeKwOnly
import HandS.Flow
import HandS.EndBits
import PySem.Challenge.RW_nestlaid_k01_whole_numbers_and_bounds
set_option Elab.async false
set_option linter.all false
set_option maxRecDepth 100000
set_option maxHeartbeats 4000000
namespace My
open PySem PySem.Spec PyProof.Rows L2
/-! ### a def of the top, with its facts -/
structure Df (K : PySem.W.Frag) (mg : Str → Option Value) (x : Str) (st : Stmt) (ps : List Str) where
  f : Addr
  fd : FuncData
  F : Fun K x x st f fd
  b : Binds K fd ps []
  g : mg x = some (.ref f)
def df_mk {K : PySem.W.Frag} {mg : Str → Option Value} {x : Str} {st : Stmt} {ps : List Str} {h : Heap} (X : K.In h) (G : h.Ns mainGlobals mg) {f : Addr} {oc : Value} {od an : Option Addr} {osl : Array (Option Value)} {kV doc pm cdv ct : Value}
    (a : PySem.W.nsIn K mainGlobals x = some (some (.ref f))) (l : K.lookup f = some ⟨oc, od, .func (PySem.W.fnOf x x (defArgs st) (defBody st) (defScope st) .none kV doc pm an cdv ct), osl⟩)
    (c : PySem.W.codeIn K cdv x = true) (k : PySem.W.keepIn K (.ref f) = true)
    (hb : ∀ (kV doc pm : Value) (an : Option Addr) (cdv ct : Value) (us : List Value), us.length = ps.length → bindArgs (PySem.W.fnOf x x (defArgs st) (defBody st) (defScope st) .none kV doc pm an cdv ct) ⟨us, []⟩ = pure (ps.zip us)) : Df K mg x st ps :=
  ⟨f, _, fun_mk l c k, (fun_mk l c k).binds hb, PySem.W.mg_of X G a⟩
/-! ### calls by keywords alone -/
theorem vals_getD : ∀ {zs : List V} {ws : List Value}, Vals zs ws → ∀ i : Nat, RelV (zs.getD i .non) (ws.getD i .none)
  | _, _, .nil, i => rfl
  | _, _, .cons r t, 0 => r
  | _, _, .cons r t, i + 1 => by simpa using vals_getD t i
section
variable {X : Cx} {CX : CXT} {k n : Nat} {f C : Addr} {fd : FuncData} {ps ks : List Str} {sp : Sp} {E : XK} {x : Str} {p pos : Pos} {kws : List Keyword} {t tk : TA} {g : List Value → List Value → List Value} {gV : List V → List V → List V}
/-- f(k = v, ..) -/
theorem pe_callN0 (F : FnOk X.prog X.w X.K X.mg X.base CX k f fd ps sp) (hr : Room k X.A) (hg : Gl X x) (hm : X.mg x = some (.ref f)) (hk : PySem.W.keepIn X.K (.ref f) = true) (hb : KBn X.K fd ps 0 ks g gV) (hx : Passes CX X E) (hkw : PK X kws tk)
    (hall : (backToKw pos (keywordEach kws X.env)).all (·.1.isSome) = true := by rfl) (hks : (backToKw pos (keywordEach kws X.env)).filterMap (·.1) = ks := by rfl) (hdb : (x == ("__debug__" : Str)) = false := by decide)
    (hpl : ((backTo pos (starEach [] X.env)).any (·.1) || (backToKw pos (keywordEach kws X.env)).any (·.1.isNone)) = false := by rfl) :
    PE X (.Call (.Name x p) [] kws pos) (tCallN 0 ks.length sp gV E tNil tk) := by
  refine ⟨fun pins s σ H Q I h => ?_⟩
  refine wpAny_Call_Name_kw (ld_glob I hg hm ?_ hdb)
  refine PySem.W.callWith_KW0 (h₀ := X.base) I.ok.mod.kin hk hall ?_ hpl
  refine thn (hkw.run pos pins s σ H _ I h) fun ws s2 ⟨zs, H2, I2, rz, l1, l2, q2⟩ => ⟨I2.kIn, ?_⟩
  rw [hks]
  exact run_fnN (us := []) (vs := []) F hr hb hx I2 .nil rz rfl l2 q2
end
/-! ### heaps -/
/-- all that was tracked but at a is as it was -/
def But (a : Addr) (H H' : Hp) : Prop := ∀ b o, b ≠ a → H b = some o → H' b = some o
theorem But.app {a b : Addr} {H H' : Hp} {o : HO} (s : But a H H') (n : b ≠ a) (h : H b = some o) : H' b = some o := s _ _ n h
theorem But.refl {a : Addr} {H : Hp} : But a H H := fun _ _ _ h => h
theorem But.trans {a : Addr} {H H1 H2 : Hp} (s : But a H H1) (t : But a H1 H2) : But a H H2 := fun b o n h => t b o n (s b o n h)
theorem But.upd {a : Addr} {H H1 : Hp} {o : HO} (s : But a H H1) : But a H (upd H1 a o) := fun b u n h => by
  rw [upd_ne n]
  exact s b u n h
theorem But.new {a p : Addr} {H H1 : Hp} {o : HO} (s : But a H H1) (h : H1 p = none) : But a H (L2.upd H1 p o) := fun b u n e => by
  have e1 := s b u n e
  rw [upd_ne (ne_of_none e1 h)]
  exact e1
theorem Same.but {a : Addr} {H H1 : Hp} (s : Same H H1) : But a H H1 := fun b u n h => s b u h
theorem Same.app {b : Addr} {H H' : Hp} {o : HO} (s : Same H H') (h : H b = some o) : H' b = some o := s _ _ h
theorem Same.new {H H1 : Hp} {p : Addr} {o : HO} (s : Same H H1) (h : H1 p = none) : Same H (upd H1 p o) := fun b u e => by
  have e1 := s b u e
  rw [upd_ne (ne_of_none e1 h)]
  exact e1
theorem Same.mut {H H1 : Hp} {p : Addr} {o : HO} (s : Same H H1) (h : H p = none) : Same H (upd H1 p o) := fun b u e => by
  rw [upd_ne (ne_of_none e h)]
  exact s b u e
theorem But.seq {K : PySem.W.Frag} {H H' : Hp} {a b : Addr} {xs : List V} (e : But a H H') (n : b ≠ a) (h : SqL K H b xs) : SqL K H' b xs := by
  rcases h with (h | ⟨o, h⟩) | h
  · exact .inl (.inl (e _ _ n h))
  · exact .inl (.inr ⟨o, e _ _ n h⟩)
  · exact .inr h
theorem upd_keep {H : Hp} {a p : Addr} {o u : HO} (n : H p = none) (h : H a = some o) : upd H p u a = some o := (upd_ne (ne_of_none h n)).trans h
theorem Same.upd0 {H : Hp} {p : Addr} {o : HO} (n : H p = none) : Same H (upd H p o) := fun b u e => upd_keep n e
theorem sqL {K : PySem.W.Frag} {H : Hp} {a : Addr} {xs : List V} (h : H a = some (.lst xs)) : SqL K H a xs := .inl (.inl h)
theorem sqT {K : PySem.W.Frag} {H : Hp} {a : Addr} {xs : List V} (h : H a = some (.tup xs)) : SqT K H a xs := .inl (.inl h)
/-! ### new and changed objects, the heap behind them by a name -/
def New (H : Hp) (o : HO) (Q : VK) : Prop := ∀ p H', H p = none → Same H H' → H' p = some o → Q (.ref p) H'
theorem New.go {H : Hp} {o : HO} {Q : VK} (h : New H o Q) : ∀ p, H p = none → Q (.ref p) (upd H p o) := fun p n => h p _ n (Same.upd0 n) upd_same
/-- what stands at l becomes o -/
def Set1 (H : Hp) (l : Addr) (o : HO) (q : Hp → Prop) : Prop := ∀ H', But l H H' → H' l = some o → q H'
theorem Set1.go {H : Hp} {l : Addr} {o : HO} {q : Hp → Prop} (h : Set1 H l o q) : q (upd H l o) := h _ But.refl.upd upd_same
theorem pe_imp {X : Cx} {e : Expr} {t t' : TE} (h : PE X e t) (i : ∀ σ H Q, t' σ H Q → t σ H Q) : PE X e t' := ⟨fun pins s σ H Q I h' => h.run pins s σ H Q I (i _ _ _ h')⟩
theorem opR_imp {X : Cx} {f : Value → Value → Sem Value} {r r' : R2} (h : OpR X f r) (i : ∀ x y H Q, r' x y H Q → r x y H Q) : OpR X f r' := fun pins s σ H x y v u Q I rx ry q => h pins s σ H x y v u Q I rx ry (i _ _ _ _ q)
theorem callR_imp {X : Cx} {f : Value} {r r' : List V → Hp → VK → Prop} (h : CallR X f r) (i : ∀ xs H Q, r' xs H Q → r xs H Q) : CallR X f r' := fun pins s σ H xs us Q I rx q => h pins s σ H xs us Q I rx (i _ _ _ q)
theorem slR_imp {X : Cx} {r r' : V → Option Int → Option Int → Hp → VK → Prop} (h : SlR X r) (i : ∀ x lo hi H Q, r' x lo hi H Q → r x lo hi H Q) : SlR X r' := fun pins s σ H x v vl vu lo hi sl Q I rx a b c q => h pins s σ H x v vl vu lo hi sl Q I rx a b c (i _ _ _ _ _ q)
theorem mtM_imp {X : Cx} {id : String} {r r' : V → List V → Hp → VK → Prop} (h : MtM X id r) (i : ∀ x xs H Q, r' x xs H Q → r x xs H Q) : MtM X id r' := fun pins s σ H x xs v us Q I rx rv q => h pins s σ H x xs v us Q I rx rv (i _ _ _ _ q)
theorem pSet_imp {X : Cx} {r r' : TSet} (h : PSet X r) (i : ∀ x y z H Q, r' x y z H Q → r x y z H Q) : PSet X r' := fun pins s σ H o i' v ov iv u Q I a b c q => h pins s σ H o i' v ov iv u Q I a b c (i _ _ _ _ _ q)
section
variable {X : Cx} {es : List Expr} {t : TA} {pos : Pos}
/-- a tuple, a list -/
def tTupA (t : TA) : TE := fun σ H Q => t σ H fun xs H1 => xs.length ≤ sizeLine ∧ New H1 (.tup xs) Q
def tLstA (t : TA) : TE := fun σ H Q => t σ H fun xs H1 => xs.length ≤ sizeLine ∧ New H1 (.lst xs) Q
theorem pe_tupA {x1} (h : PA X es t) : PE X (.Tuple es x1 pos) (tTupA t) := by
  refine ⟨fun pins s σ H Q I hq => ?_⟩
  refine wpAny_Tuple_spliced (thn (h.run pos pins s σ H _ I hq) fun us s1 ⟨xs, H1, I1, r, z, q⟩ => ⟨by rw [← r.length]; exact z, ?_⟩)
  have hf : H1 s1.heap.objs.size = none := I1.hok.fresh (Nat.le_refl _)
  refine ⟨.ref s1.heap.objs.size, upd H1 s1.heap.objs.size (.tup xs), I1.laid (t' := s1.toks) (fun b u e => Heap.get?_push_of_some _ e) (Nat.le_refl _) ?_, rfl, q.go _ hf⟩
  exact ⟨z, us, r, ⟨_, Heap.get?_push_size _ rfl, rfl, _, rfl⟩⟩
theorem pe_lstA (h : PA X es t) : PE X (.List es pos) (tLstA t) := by
  refine ⟨fun pins s σ H Q I hq => ?_⟩
  refine wpAny_List_spliced (thn (h.run pos pins s σ H _ I hq) fun us s1 ⟨xs, H1, I1, r, z, q⟩ => ⟨by rw [← r.length]; exact z, ?_⟩)
  have hf : H1 s1.heap.objs.size = none := I1.hok.fresh (Nat.le_refl _)
  refine ⟨.ref s1.heap.objs.size, upd H1 s1.heap.objs.size (.lst xs), I1.laid (t' := s1.toks) (fun b u e => Heap.get?_push_of_some _ e) (Nat.le_refl _) ?_, rfl, q.go _ hf⟩
  exact ⟨z, us, 0, r, Heap.get?_push_size _ rfl⟩
def tDNewA : TE := fun _ H Q => New H (.dK []) Q
theorem pe_dnewA : PE X (.Dict [] [] pos) tDNewA := pe_imp pe_dnewK fun _ _ _ h => h.go
/-- list + list, list * n -/
def rCatA (K : PySem.W.Frag) : R2 := fun x y H Q => ∃ l b xs zs, x = .ref l ∧ y = .ref b ∧ H l = some (.lst xs) ∧ H b = some (.lst zs) ∧ xs.length + zs.length ≤ sizeLine ∧ New H (.lst (xs ++ zs)) Q
theorem op_catA : OpR X (binaryOp .Add) (rCatA X.K) := opR_imp op_cat fun _ _ _ _ ⟨l, b, xs, zs, e1, e2, h1, h2, z, q⟩ => ⟨l, b, xs, zs, e1, e2, h1, h2, z, q.go⟩
def rRepA : R2 := fun x y H Q => ∃ l k xs, x = .ref l ∧ y = .int k ∧ H l = some (.lst xs) ∧ -(2 ^ 63) ≤ k ∧ k < 2 ^ 63 ∧ xs.length * k.toNat ≤ sizeLine ∧ New H (.lst (List.replicate k.toNat xs).flatten) Q
theorem op_repA : OpR X (binaryOp .Mult) rRepA := opR_imp op_rep fun _ _ _ _ ⟨l, k, xs, e1, e2, h1, h2, h3, z, q⟩ => ⟨l, k, xs, e1, e2, h1, h2, h3, z, q.go⟩
def rSlA (K : PySem.W.Frag) : V → Option Int → Option Int → Hp → VK → Prop := fun x lo hi H Q => ∃ a xs, x = .ref a ∧ SqL K H a xs ∧ New H (.lst (cutV xs lo hi)) Q
theorem sl_listA : SlR X (rSlA X.K) := slR_imp sl_list fun _ _ _ _ _ ⟨a, xs, e, h1, q⟩ => ⟨a, xs, e, h1, q.go⟩
def rListA (K : PySem.W.Frag) : List V → Hp → VK → Prop := fun xs H Q => ∃ p ys, xs = [.ref p] ∧ (SqL K H p ys ∨ SqT K H p ys) ∧ New H (.lst ys) Q
theorem call_listA : CallR X (.type "list") (rListA X.K) := callR_imp call_list_of fun _ _ _ ⟨p, ys, e, h, q⟩ => ⟨p, ys, e, h, q.go⟩
/-- tuple(a list) -/
def rTupLA (K : PySem.W.Frag) : List V → Hp → VK → Prop := fun xs H Q => ∃ p ys, xs = [.ref p] ∧ SqL K H p ys ∧ New H (.tup ys) Q
theorem call_tupLA : CallR X (.type "tuple") (rTupLA X.K) := callR_imp call_tuple_of fun _ _ _ ⟨p, ys, e, h, q⟩ => ⟨p, ys, e, .inl ⟨h, q.go⟩⟩
def rSetA : V → V → V → Hp → (Hp → Prop) → Prop := fun o i v H Q => ∃ p xs k j, o = .ref p ∧ i = .int k ∧ H p = some (.lst xs) ∧ ixN xs.length k = some j ∧ Set1 H p (.lst (xs.set j v)) Q
theorem set_listA : PSet X rSetA := pSet_imp set_list fun _ _ _ _ _ ⟨p, xs, k, j, e1, e2, h1, h2, q⟩ => ⟨p, xs, k, j, e1, e2, h1, h2, q.go⟩
def rAppendA : V → List V → Hp → VK → Prop := fun x vs H Q => ∃ l xs y, x = .ref l ∧ vs = [y] ∧ H l = some (.lst xs) ∧ xs.length < sizeLine ∧ Set1 H l (.lst (xs ++ [y])) (Q .non)
theorem mt_appendA : MtM X "list.append" rAppendA := mtM_imp mt_append fun _ _ _ _ ⟨l, xs, y, e1, e2, h1, h2, q⟩ => ⟨l, xs, y, e1, e2, h1, h2, q.go⟩
end
theorem cutV_mem {xs : List V} {lo hi : Option Int} {x : V} (h : x ∈ cutV xs lo hi) : x ∈ xs := List.mem_of_mem_drop (List.mem_of_mem_take h)
theorem int_of_map {ns : List Int} {i : Nat} {y : V} (h : (ns.map V.int)[i]? = some y) : ∃ z, ns[i]? = some z ∧ y = .int z := by
  rw [List.getElem?_map] at h
  cases e : ns[i]? with
  | none => rw [e] at h; cases h
  | some z => rw [e] at h; exact ⟨z, rfl, (Option.some.inj h).symm⟩
/-- the law's numbers: the first one (0 without), and some more -/
theorem cells_ints {c : Int} {ns : List Int} {lo hi : Option Int} {i : Nat} {y : V} (h : ([V.int c] ++ cutV (ns.map V.int) lo hi)[i]? = some y) : ∃ z, y = .int z := by
  have m := List.mem_of_getElem? h
  rcases List.mem_append.mp m with m | m
  · exact ⟨c, by simpa using m⟩
  · have m2 := cutV_mem m
    obtain ⟨z, _, e⟩ := List.mem_map.mp m2
    exact ⟨z, e.symm⟩
theorem cells_len {ns : List Int} {lo hi : Option Int} (h : ns.length ≤ 63) : ([V.int 0] : List V).length + (cutV (ns.map V.int) lo hi).length ≤ sizeLine := by
  have h1 := cutV_length (ns.map V.int) lo hi
  rw [List.length_map] at h1
  exact Nat.le_trans (by show 1 + _ ≤ 100; omega) (by decide)
/-! ### kinds -/
def isI : V → Bool
  | .int _ => true
  | _ => false
def isB : V → Bool
  | .bl _ => true
  | _ => false
/-- a value of one of the plain kinds -/
inductive Ty7 (H : Hp) : V → String → Prop where
  | non : Ty7 H .non "NoneType"
  | bl (b : Bool) : Ty7 H (.bl b) "bool"
  | int (i : Int) : Ty7 H (.int i) "int"
  | str (x : Str) : Ty7 H (.str x) "str"
  | lst {a : Addr} {xs : List V} (h : H a = some (.lst xs)) : Ty7 H (.ref a) "list"
  | tup {a : Addr} {xs : List V} (h : H a = some (.tup xs)) : Ty7 H (.ref a) "tuple"
  | dK {a : Addr} {xs : List (Key × V)} (h : H a = some (.dK xs)) : Ty7 H (.ref a) "dict"
section
variable {K : PySem.W.Frag} {H H' : Hp} {x : V} {t : String}
theorem Ty7.tx (h : Ty7 H x t) : TyX K H x (.type t) := by
  cases h with
  | non => exact .base .non
  | bl b => exact .base (.bl b)
  | int i => exact .base (.int i)
  | str i => exact .base (.str i)
  | lst h => exact .base (.lst h)
  | tup h => exact .base (.tup h)
  | dK h => exact .base (.dK h)
theorem Ty7.ki (h : Ty7 H x t) : kitB t "int" = some (isI x || isB x) := by
  cases h <;> (simp only [isI, isB]; decide +kernel)
theorem Ty7.kb (h : Ty7 H x t) : kitB t "bool" = some (isB x) := by
  cases h <;> (simp only [isB]; decide +kernel)
theorem Ty7.kl (h : Ty7 H x t) : kitB t "list" = some (decide (t = "list")) := by
  cases h <;> decide +kernel
theorem Ty7.kt (h : Ty7 H x t) : kitB t "tuple" = some (decide (t = "tuple")) := by
  cases h <;> decide +kernel
theorem Ty7.ks (h : Ty7 H x t) : kitB t "str" = some (decide (t = "str")) := by
  cases h <;> decide +kernel
theorem Ty7.mono (h : Ty7 H x t) (s : Same H H') : Ty7 H' x t := by
  cases h with
  | non => exact .non
  | bl b => exact .bl b
  | int i => exact .int i
  | str i => exact .str i
  | lst h => exact .lst (s _ _ h)
  | tup h => exact .tup (s _ _ h)
  | dK h => exact .dK (s _ _ h)
end
theorem isI_of : ∀ {x : V}, isI x = true → ∃ i, x = .int i
  | .int i, _ => ⟨i, rfl⟩
theorem isI_bool {x : V} (h : (isI x || isB x) = true) : (!isB x) = isI x := by
  cases x <;> simp_all [isI, isB]
theorem isI_no {x : V} (h : ¬ (isI x || isB x) = true) : false = isI x := by
  cases x <;> simp_all [isI, isB]
def heldM (n l : Int) (m : Option Int) : Int := max (match m with | some m => min n m | none => n) l
def optI : Option Int → V
  | some i => .int i
  | none => .non
/-- the law's source of draws: three whole numbers -/
def src (s : Int × Int × Int) : HO := .lst [.int s.1, .int s.2.1, .int s.2.2]
end My

open PySem L2 My
/-! ### short steps -/
local macro_rules | `(tactic| tm_at "hp") => `(tactic| first
  | with_reducible assumption
  | exact upd_same
  | (with_reducible refine upd_keep ?hpn ?hpr; (case hpn => with_reducible assumption); (case hpr => tm_at "hp"))
  | (refine Eq.trans (upd_ne ?hpn) ?hpr; (case hpn => tm_at "ne"); (case hpr => tm_at "hp"))
  | (refine' Same.app ?hps ?hpr; (case hps => with_reducible assumption); (case hpr => tm_at "hp"))
  | (refine' But.app ?hps ?hpn ?hpr; (case hps => with_reducible assumption); (case hpr => tm_at "hp"); (case hpn => tm_at "ne")))
local macro_rules | `(tactic| tm_at "ne") => `(tactic| first
  | with_reducible assumption
  | (with_reducible refine Ne.symm ?nes; (case nes => with_reducible assumption))
  | (refine' ne_of_none ?nea ?neb; (case neb => with_reducible assumption); (case nea => tm_at "hp"))
  | (refine' Ne.symm (ne_of_none ?nea ?neb); (case neb => with_reducible assumption); (case nea => tm_at "hp")))
/-- a list, a tuple that stands -/
local macro_rules | `(tactic| tm_at "sql") => `(tactic| first
  | with_reducible assumption
  | (refine sqL ?sqa; (case sqa => tm_at "hp"))
  | (refine' Same.seq ?sqs ?sqa; (case sqs => with_reducible assumption); (case sqa => tm_at "sql"))
  | (refine' But.seq ?sqs ?sqn ?sqa; (case sqs => with_reducible assumption); (case sqa => tm_at "sql"); (case sqn => tm_at "ne")))
/-- all but a stands; all stands -/
local macro_rules | `(tactic| tm_at "bt") => `(tactic| first
  | with_reducible assumption
  | with_reducible exact But.refl
  | (with_reducible refine But.upd ?btx; (case btx => tm_at "bt"))
  | (with_reducible refine But.new ?btx ?bty; (case bty => with_reducible assumption); (case btx => tm_at "bt"))
  | (refine' But.trans ?btx ?bty; (case bty => with_reducible assumption); (case btx => tm_at "bt"))
  | (refine' But.trans ?btx (Same.but ?bty); (case bty => with_reducible assumption); (case btx => tm_at "bt")))
local macro_rules | `(tactic| tm_at "sm") => `(tactic| first
  | with_reducible assumption
  | with_reducible exact Same.refl _
  | (with_reducible refine Same.new ?btx ?bty; (case bty => with_reducible assumption); (case btx => tm_at "sm"))
  | (with_reducible refine Same.mut ?btx ?bty; (case bty => with_reducible assumption); (case btx => tm_at "sm"))
  | (refine' Same.trans ?btx ?bty; (case bty => with_reducible assumption); (case btx => tm_at "sm")))
/-- an int's condition -/
local macro_rules | `(tactic| tm_at "ic") => `(tactic| first
  | assumption
  | omega
  | exact Nat.le_of_ble_eq_true rfl
  | exact ⟨by decide, by decide +kernel⟩
  | exact Or.inr ⟨by omega, by omega⟩
  | exact Or.inl ⟨by omega, by omega⟩
  | exact ⟨by decide, by decide, by decide⟩
  | exact wide_div (b := 64) (by omega) (by omega) (by decide) (by decide)
  | decide)
/-- one step of a reading -/
local macro_rules | `(tactic| tm_at "rd") => `(tactic| first
  | refine ⟨_, rfl, ?_⟩
  | refine ⟨_, _, rfl, rfl, ?_⟩
  | (refine And.intro ?rdc ?_; (case rdc => (first | tm_at "ic" | (dsimp only; tm_at "ic"))))
  | refine ⟨_, _, rfl, ?_⟩
  | refine ⟨rfl, ?_⟩
  | refine Or.inl ⟨_, rfl, ?_⟩
  | refine Or.inr ⟨_, rfl, ?_⟩)
local macro_rules | `(tactic| tm_at "rds") => `(tactic| repeat (tm_at "rd"))
namespace My
open PySem PySem.Spec PyProof.Rows L2
def top (i : Nat) : Stmt := PySem.Challenge.pw_nestlaid_k01_whole_numbers_and_bounds.main.body.getD i (.Pass ⟨0, 0, 0, 0⟩)
abbrev s_is_whole : Stmt := top 1
abbrev N_is_whole : List Str := ["thing"]
theorem sc_is_whole : FnScope N_is_whole ["thing"] (defScope s_is_whole) := ⟨rfl, rfl, rfl, by decide +kernel, rfl, by decide +kernel, by decide +kernel⟩
abbrev s_held : Stmt := top 2
abbrev N_held : List Str := ["number", "least", "most"]
theorem sc_held : FnScope N_held ["number", "least", "most"] (defScope s_held) := ⟨rfl, rfl, rfl, by decide +kernel, rfl, by decide +kernel, by decide +kernel⟩
abbrev s_w_cell_at : Stmt := top 4
abbrev N_w_cell_at : List Str := ["_law_script", "_law_k"]
theorem sc_w_cell_at : FnScope N_w_cell_at ["_law_script", "_law_k"] (defScope s_w_cell_at) := ⟨rfl, rfl, rfl, by decide +kernel, rfl, by decide +kernel, by decide +kernel⟩
abbrev s_w_mixed : Stmt := top 5
abbrev N_w_mixed : List Str := ["_law_cell", "_law_k", "_law_low"]
theorem sc_w_mixed : FnScope N_w_mixed ["_law_cell", "_law_k"] (defScope s_w_mixed) := ⟨rfl, rfl, rfl, by decide +kernel, rfl, by decide +kernel, by decide +kernel⟩
abbrev s_w_source : Stmt := top 6
abbrev N_w_source : List Str := ["_law_cell"]
theorem sc_w_source : FnScope N_w_source ["_law_cell"] (defScope s_w_source) := ⟨rfl, rfl, rfl, by decide +kernel, rfl, by decide +kernel, by decide +kernel⟩
abbrev s_w_next : Stmt := top 7
abbrev N_w_next : List Str := ["_law_source_here", "_law_many", "_law_found"]
theorem sc_w_next : FnScope N_w_next ["_law_source_here", "_law_many"] (defScope s_w_next) := ⟨rfl, rfl, rfl, by decide +kernel, rfl, by decide +kernel, by decide +kernel⟩
abbrev s_w_number : Stmt := top 8
abbrev N_w_number : List Str := ["_law_source_here", "_law_beside", "_law_way", "_law_found"]
theorem sc_w_number : FnScope N_w_number ["_law_source_here", "_law_beside"] (defScope s_w_number) := ⟨rfl, rfl, rfl, by decide +kernel, rfl, by decide +kernel, by decide +kernel⟩
abbrev s_w_thing : Stmt := top 9
abbrev N_w_thing : List Str := ["_law_source_here", "_law_some"]
theorem sc_w_thing : FnScope N_w_thing ["_law_source_here"] (defScope s_w_thing) := ⟨rfl, rfl, rfl, by decide +kernel, rfl, by decide +kernel, by decide +kernel⟩
abbrev s_w_held : Stmt := top 10
abbrev N_w_held : List Str := ["_law_amount", "_law_low", "_law_top"]
theorem sc_w_held : FnScope N_w_held ["_law_amount", "_law_low", "_law_top"] (defScope s_w_held) := ⟨rfl, rfl, rfl, by decide +kernel, rfl, by decide +kernel, by decide +kernel⟩
abbrev s_w_same : Stmt := top 11
abbrev N_w_same : List Str := ["_law_found", "_law_due"]
theorem sc_w_same : FnScope N_w_same ["_law_found", "_law_due"] (defScope s_w_same) := ⟨rfl, rfl, rfl, by decide +kernel, rfl, by decide +kernel, by decide +kernel⟩
abbrev s_law : Stmt := top 12
abbrev N_law : List Str := ["_law_script", "_law_cell", "_law_source_here", "_law_one", "_law_good", "_law_told", "_law_low", "_law_top", "_law_amount", "_law_found"]
theorem sc_law : FnScope N_law ["_law_script"] (defScope s_law) := ⟨rfl, rfl, rfl, by decide +kernel, rfl, by decide +kernel, by decide +kernel⟩
structure Tx (K : PySem.W.Frag) (mg : Str → Option Value) where
  d_is_whole : Df K mg "is_whole" s_is_whole ["thing"]
  d_held : Df K mg "held" s_held ["number", "least", "most"]
  d_w_cell_at : Df K mg "_law_cell_at" s_w_cell_at ["_law_script", "_law_k"]
  d_w_mixed : Df K mg "_law_mixed" s_w_mixed ["_law_cell", "_law_k"]
  d_w_source : Df K mg "_law_source" s_w_source ["_law_cell"]
  d_w_next : Df K mg "_law_next" s_w_next ["_law_source_here", "_law_many"]
  d_w_number : Df K mg "_law_number" s_w_number ["_law_source_here", "_law_beside"]
  d_w_thing : Df K mg "_law_thing" s_w_thing ["_law_source_here"]
  d_w_held : Df K mg "_law_held" s_w_held ["_law_amount", "_law_low", "_law_top"]
  d_w_same : Df K mg "_law_same" s_w_same ["_law_found", "_law_due"]
  d_law : Df K mg "law" s_law ["_law_script"]
  b_bool : mg "bool" = none
  b_int : mg "int" = none
  b_isinstance : mg "isinstance" = none
  b_len : mg "len" = none
  b_max : mg "max" = none
  b_min : mg "min" = none
end My
namespace My
open PySem PySem.Spec PyProof.Rows L2
section
variable {P : Program} {w : World} {K : PySem.W.Frag} {mg : Str → Option Value} {base : Heap}
theorem kb_is_whole_0_thing (T : Tx K mg) : KBn K T.d_is_whole.fd ["thing"] 0 ["thing"] (fun us ws => [ws.getD 0 .none]) (fun vs zs => [zs.getD 0 .non]) := by
  obtain ⟨oc, od, kV, doc, pm, an, cdv, ct, osl, e, _, _⟩ := T.d_is_whole.F.ex
  refine ⟨fun s us ws _ h1 h2 => ?_, fun r1 r2 => (.cons (vals_getD r2 0) .nil)⟩
  rw [e]
  exact match us, ws, h1, h2 with | [], [_], _, _ => .of_eq rfl
def sp_is_whole : Sp := fun vs H Q _ => ∃ (x : V) (t : String), vs = [x] ∧ Ty7 H x t ∧ Q (.bl (isI x)) H
theorem ok_is_whole (T : Tx K mg) : FnOk P w K mg base CX0 1 T.d_is_whole.f T.d_is_whole.fd ["thing"] (sp_is_whole) := by
  refine T.d_is_whole.F.ok sc_is_whole (fun vs H Q E h => ?_) (fun cdv A outer s H vs Q E hr h => ?_)
  · obtain ⟨x, t, rfl, _⟩ := h
    rfl
  · obtain ⟨x, t, rfl, ht, k⟩ := h
    refine ⟨_, (pss_one (ps_ret (pe_and (pe_callB call_isi (by rfl) T.b_isinstance (by decide +kernel) (pa_cons (pv 0) (pa_cons (pe_bltn (v := .ty "int") (by rfl) T.b_int (by decide +kernel) rfl) pa_nil))) (pe_one (pe_not (pe_callB call_isi (by rfl) T.b_isinstance (by decide +kernel) (pa_cons (pv 0) (pa_cons (pe_bltn (v := .ty "bool") (by rfl) T.b_bool (by decide +kernel) rfl) pa_nil)))))))), ?_⟩
    refine ⟨_, rfl, _, _, _, _, _, rfl, .ty _, ht.tx, kit_ty ht.ki, _, rfl, ite2 (fun e => ?_) (fun e => ?_)⟩
    · refine ⟨_, rfl, _, _, _, _, _, rfl, .ty _, ht.tx, kit_ty ht.kb, _, rfl, ?_⟩
      rw [isI_bool e]
      exact k
    · rw [isI_no e]
      exact k
end
end My
namespace My
open PySem PySem.Spec PyProof.Rows L2
section
variable {P : Program} {w : World} {K : PySem.W.Frag} {mg : Str → Option Value} {base : Heap}
theorem kb_held_0_most_number_least (T : Tx K mg) : KBn K T.d_held.fd ["number", "least", "most"] 0 ["most", "number", "least"] (fun us ws => [ws.getD 1 .none, ws.getD 2 .none, ws.getD 0 .none]) (fun vs zs => [zs.getD 1 .non, zs.getD 2 .non, zs.getD 0 .non]) := by
  obtain ⟨oc, od, kV, doc, pm, an, cdv, ct, osl, e, _, _⟩ := T.d_held.F.ex
  refine ⟨fun s us ws _ h1 h2 => ?_, fun r1 r2 => (.cons (vals_getD r2 1) (.cons (vals_getD r2 2) (.cons (vals_getD r2 0) .nil)))⟩
  rw [e]
  exact match us, ws, h1, h2 with | [], [_, _, _], _, _ => .of_eq rfl
def sp_held : Sp := fun vs H Q _ => ∃ (n l : Int) (m : Option Int), vs = [.int n, .int l, optI m] ∧ Q (.int (heldM n l m)) H
theorem ok_held (T : Tx K mg) : FnOk P w K mg base CX0 1 T.d_held.f T.d_held.fd ["number", "least", "most"] (sp_held) := by
  refine T.d_held.F.ok sc_held (fun vs H Q E h => ?_) (fun cdv A outer s H vs Q E hr h => ?_)
  · obtain ⟨x, t, m, rfl, _⟩ := h
    rfl
  · obtain ⟨n, l, m, rfl, k⟩ := h
    have e1 : ∀ a b : Int, (if b > a then b else a) = max a b := fun a b => by split <;> omega
    have e2 : ∀ a b : Int, (if b < a then b else a) = min a b := fun a b => by split <;> omega
    cases m with
    | none =>
      refine ⟨_, (pss_cons (ps_if (pt_cmpR op_notN (pv 2) pe_non (nomark _))
      (pss_one (ps_set (i := 0) sc_held.nd rfl (Or.inl rfl) (pe_callB (call_min2 rfl) (by rfl) T.b_min (by decide +kernel) (pa_cons (pv 0) (pa_cons (pv 2) pa_nil)))))
      pss_nil)
      (pss_one (ps_ret (pe_callB (call_max2 rfl) (by rfl) T.b_max (by decide +kernel) (pa_cons (pv 0) (pa_cons (pv 1) pa_nil)))))), ?_⟩
      refine ⟨_, rfl, rfl, _, rfl, ?_⟩
      tm_at "rds"
      rw [e1]
      exact k
    | some m =>
      refine ⟨_, (pss_cons (ps_if (pt_cmpR op_notN (pv 2) pe_non (nomark _))
      (pss_one (ps_set (i := 0) sc_held.nd rfl (Or.inl rfl) (pe_callB (call_min2 rfl) (by rfl) T.b_min (by decide +kernel) (pa_cons (pv 0) (pa_cons (pv 2) pa_nil)))))
      pss_nil)
      (pss_one (ps_ret (pe_callB (call_max2 rfl) (by rfl) T.b_max (by decide +kernel) (pa_cons (pv 0) (pa_cons (pv 1) pa_nil)))))), ?_⟩
      refine ⟨_, rfl, rfl, _, rfl, ?_⟩
      tm_at "rds"
      rw [e1, e2]
      exact k
end
end My
namespace My
open PySem PySem.Spec PyProof.Rows L2
section
variable {P : Program} {w : World} {K : PySem.W.Frag} {mg : Str → Option Value} {base : Heap}
def sp_w_cell_at (K : PySem.W.Frag) : Sp := fun vs H Q _ => ∃ (a : Addr) (ns : List Int), vs = [.ref a, .int 0] ∧ SqL K H a (ns.map V.int) ∧ ns.length ≤ 63 ∧ Q (.int (ns.headD 0)) H
theorem ok_w_cell_at (T : Tx K mg) : FnOk P w K mg base CX0 1 T.d_w_cell_at.f T.d_w_cell_at.fd ["_law_script", "_law_k"] (sp_w_cell_at K) := by
  refine T.d_w_cell_at.F.ok sc_w_cell_at (fun vs H Q E h => ?_) (fun cdv A outer s H vs Q E hr h => ?_)
  · obtain ⟨x, t, rfl, _⟩ := h
    rfl
  · obtain ⟨a, ns, rfl, hS, hl, k⟩ := h
    refine ⟨_, (pss_cons (ps_if (pt_cmpR op_lt (pv 1) (pe_callB call_len (by rfl) T.b_len (by decide +kernel) (pa_cons (pv 0) pa_nil)) (nomark _))
      (pss_one (ps_ret (pe_ix ix_seq (pv 0) (pv 1) (fun _ _ => rfl))))
      pss_nil)
      (pss_one (ps_ret pe_int))), ?_⟩
    refine ⟨_, rfl, _, rfl, _, _, rfl, .inl ⟨_, hS, rfl⟩, _, _, rfl, rfl, _, rfl, ite2 (fun e => ?_) (fun e => ?_)⟩
    · cases ns with
      | nil => simp at e
      | cons z r => exact ⟨_, rfl, _, rfl, .inl ⟨_, _, _, _, rfl, rfl, hS, atI_nat (j := 0) rfl, k⟩⟩
    · cases ns with
      | nil => exact k
      | cons z r => simp at e
end
end My
namespace My
open PySem PySem.Spec PyProof.Rows L2
section
variable {P : Program} {w : World} {K : PySem.W.Frag} {mg : Str → Option Value} {base : Heap}
def sp_w_mixed : Sp := fun vs H Q _ => ∃ (c k : Int), vs = [.int c, .int k] ∧ ∀ n : Int, 0 ≤ n → Q (.int n) H
theorem ok_w_mixed (T : Tx K mg) : FnOk P w K mg base CX0 1 T.d_w_mixed.f T.d_w_mixed.fd ["_law_cell", "_law_k"] (sp_w_mixed) := by
  refine T.d_w_mixed.F.ok sc_w_mixed (fun vs H Q E h => ?_) (fun cdv A outer s H vs Q E hr h => ?_)
  · obtain ⟨x, t, rfl, _⟩ := h
    rfl
  · obtain ⟨c, j, rfl, k⟩ := h
    refine ⟨_, (pss_cons (ps_set (i := 2) sc_w_mixed.nd rfl (Or.inl rfl) (pe_op op_add (pe_op op_mod (pv 0) pe_int) (pe_op op_mul (pe_op op_fdivW (pv 0) pe_int) pe_int)))
      (pss_cons (ps_set (i := 2) sc_w_mixed.nd rfl (Or.inl rfl) (pe_op op_mod (pe_op op_mul (pe_op op_add (pe_op op_add (pv 2) (pe_op op_mul pe_int (pv 1))) pe_int) pe_int) pe_int))
      (pss_cons (ps_set (i := 2) sc_w_mixed.nd rfl (Or.inl rfl) (pe_op op_mod (pe_op op_mul (pv 2) (pe_op op_add (pe_op op_add (pe_op op_fdivW (pv 2) pe_int) pe_int) (pv 1))) pe_int))
      (pss_one (ps_ret (pe_op op_mod (pe_op op_mul (pv 2) (pe_op op_add (pe_op op_fdivW (pv 2) pe_int) pe_int)) pe_int)))))), ?_⟩
    tm_at "rds"
    refine k _ ?_
    exact Int.emod_nonneg _ (by decide)
end
end My
namespace My
open PySem PySem.Spec PyProof.Rows L2
section
variable {P : Program} {w : World} {K : PySem.W.Frag} {mg : Str → Option Value} {base : Heap}
def sp_w_source : Sp := fun vs H Q _ => ∃ (c : Int), vs = [.int c] ∧ New H (src (c, c, 0)) Q
theorem ok_w_source (T : Tx K mg) : FnOk P w K mg base CX0 1 T.d_w_source.f T.d_w_source.fd ["_law_cell"] (sp_w_source) := by
  refine T.d_w_source.F.ok sc_w_source (fun vs H Q E h => ?_) (fun cdv A outer s H vs Q E hr h => ?_)
  · obtain ⟨x, rfl, _⟩ := h
    rfl
  · obtain ⟨c, rfl, k⟩ := h
    refine ⟨_, (pss_one (ps_ret (pe_lstA (pa_cons (pv 0) (pa_cons (pv 0) (pa_cons pe_int pa_nil)))))), ?_⟩
    refine ⟨_, rfl, _, rfl, (by show 3 ≤ sizeLine; decide), k⟩
end
end My
namespace My
open PySem PySem.Spec PyProof.Rows L2
section
variable {P : Program} {w : World} {K : PySem.W.Frag} {mg : Str → Option Value} {base : Heap}
def sp_w_next : Sp := fun vs H Q _ => ∃ (a : Addr) (s : Int × Int × Int) (m : Int), vs = [.ref a, .int m] ∧ H a = some (src s) ∧ 0 < m ∧ m < 2 ^ 64 ∧
  ∀ (n : Int) (s' : Int × Int × Int) (H' : Hp), 0 ≤ n → n < m → H' a = some (src s') → But a H H' → Q (.int n) H'
theorem ok_w_next (T : Tx K mg) : FnOk P w K mg base CX0 2 T.d_w_next.f T.d_w_next.fd ["_law_source_here", "_law_many"] (sp_w_next) := by
  refine T.d_w_next.F.ok sc_w_next (fun vs H Q E h => ?_) (fun cdv A outer s H vs Q E hr h => ?_)
  · obtain ⟨a, s, m, rfl, _⟩ := h
    rfl
  · obtain ⟨a, ⟨c0, c1, c2⟩, m, rfl, hs, m0, m1, k⟩ := h
    have hL : SqL K H a [.int c0, .int c1, .int c2] := sqL hs
    refine ⟨_, (pss_cons (ps_if (pt_cmpR op_ge (pe_ix ix_seq (pv 0) pe_int (fun _ _ => rfl)) (pe_op op_pow pe_int pe_int) (nomark _))
      (pss_cons (ps_set (i := 2) sc_w_next.nd rfl (Or.inl rfl) (pe_op op_mod (pe_ix ix_seq (pv 0) pe_int (fun _ _ => rfl)) (pv 1)))
      (pss_cons (ps_asg (pe_op op_fdivW (pe_ix ix_seq (pv 0) pe_int (fun _ _ => rfl)) (pv 1)) (pg_sub (pv 0) pe_int set_listA))
      (pss_one (ps_ret (pv 2)))))
      pss_nil)
      (pss_cons (ps_asg (pe_op op_add (pe_ix ix_seq (pv 0) pe_int (fun _ _ => rfl)) pe_int) (pg_sub (pv 0) pe_int set_listA))
      (pss_one (ps_ret (pe_op op_mod (pe_call (ok_w_mixed T) (hr.mono (by decide)) (by rfl) T.d_w_mixed.g T.d_w_mixed.F.kp T.d_w_mixed.b .nil pass0 (pa_cons (pe_ix ix_seq (pv 0) pe_int (fun _ _ => rfl)) (pa_cons (pe_ix ix_seq (pv 0) pe_int (fun _ _ => rfl)) pa_nil))) (pv 1)))))), ?_⟩
    refine ⟨_, rfl, .inl ⟨_, _, _, _, rfl, rfl, hL, atI_nat (j := 0) rfl, _, _, rfl, rfl, ⟨by decide, by decide, by decide⟩, _, _, rfl, rfl, _, rfl, ite2 (fun e => ?_) (fun e => ?_)⟩⟩
    · refine ⟨_, rfl, .inl ⟨_, _, _, _, rfl, rfl, hL, atI_nat (j := 0) rfl, ?_⟩⟩
      tm_at "rds"
      refine .inl ⟨_, _, _, _, rfl, rfl, hL, atI_nat (j := 0) rfl, ?_⟩
      tm_at "rds"
      refine ⟨_, _, _, _, rfl, rfl, hs, rfl, fun H1 B1 g1 => ?_⟩
      tm_at "rds"
      refine k _ (c0 / m, c1, c2) _ ?_ ?_ g1 B1
      · exact Int.emod_nonneg _ (by omega)
      · exact Int.emod_lt_of_pos _ m0
    · refine ⟨_, rfl, .inl ⟨_, _, _, _, rfl, rfl, hL, atI_nat (j := 2) rfl, ?_⟩⟩
      tm_at "rds"
      refine ⟨_, _, _, _, rfl, rfl, hs, rfl, fun H1 B1 g1 => ?_⟩
      refine ⟨_, rfl, .inl ⟨_, _, _, _, rfl, rfl, sqL g1, atI_nat (j := 1) rfl, ?_⟩⟩
      refine ⟨_, rfl, .inl ⟨_, _, _, _, rfl, rfl, sqL g1, atI_nat (j := 2) rfl, ?_⟩⟩
      refine ⟨_, _, rfl, fun n n0 => ?_⟩
      tm_at "rds"
      refine k _ (c0, c1, c2 + 1) _ ?_ ?_ g1 B1
      · exact Int.emod_nonneg _ (by omega)
      · exact Int.emod_lt_of_pos _ m0
end
end My
namespace My
open PySem PySem.Spec PyProof.Rows L2
section
variable {P : Program} {w : World} {K : PySem.W.Frag} {mg : Str → Option Value} {base : Heap}
/-- a number of at most 10 ^ 12 or so either way, or one beside a known one -/
def sp_w_number : Sp := fun vs H Q _ => ∃ (a : Addr) (s : Int × Int × Int) (z : Int), vs = [.ref a, .int z] ∧ H a = some (src s) ∧
  ∀ (n : Int) (s' : Int × Int × Int) (H' : Hp), H' a = some (src s') → But a H H' → Q (.int n) H'
theorem ok_w_number (T : Tx K mg) : FnOk P w K mg base CX0 3 T.d_w_number.f T.d_w_number.fd ["_law_source_here", "_law_beside"] (sp_w_number) := by
  refine T.d_w_number.F.ok sc_w_number (fun vs H Q E h => ?_) (fun cdv A outer s H vs Q E hr h => ?_)
  · obtain ⟨a, s, z, rfl, _⟩ := h
    rfl
  · obtain ⟨a, s, z, rfl, hs, k⟩ := h
    refine ⟨_, (pss_cons (ps_set (i := 2) sc_w_number.nd rfl (Or.inl rfl) (pe_call (ok_w_next T) (hr.mono (by decide)) (by rfl) T.d_w_next.g T.d_w_next.F.kp T.d_w_next.b .nil pass0 (pa_cons (pv 0) (pa_cons pe_int pa_nil))))
      (pss_cons (ps_if (pt_cmpR op_eq (pv 2) pe_int (nomark _))
      (pss_one (ps_ret (pe_op op_sub (pe_op op_add (pv 1) (pe_call (ok_w_next T) (hr.mono (by decide)) (by rfl) T.d_w_next.g T.d_w_next.F.kp T.d_w_next.b .nil pass0 (pa_cons (pv 0) (pa_cons pe_int pa_nil)))) pe_int)))
      pss_nil)
      (pss_cons (ps_set (i := 3) sc_w_number.nd rfl (Or.inl rfl) (pe_call (ok_w_next T) (hr.mono (by decide)) (by rfl) T.d_w_next.g T.d_w_next.F.kp T.d_w_next.b .nil pass0 (pa_cons (pv 0) (pa_cons (pe_ix ix_list (pe_lstA (pa_cons pe_int (pa_cons pe_int (pa_cons pe_int (pa_cons (pe_op op_sub (pe_op op_pow pe_int pe_int) pe_int) pa_nil))))) (pe_op op_sub (pv 2) pe_int) (fun _ _ => rfl)) pa_nil))))
      (pss_one (ps_ret (pe_ix ix_list (pe_lstA (pa_cons (pv 3) (pa_cons (pv 3) (pa_cons (pe_op op_sub pe_int (pv 3)) pa_nil)))) (pe_call (ok_w_next T) (hr.mono (by decide)) (by rfl) T.d_w_next.g T.d_w_next.F.kp T.d_w_next.b .nil pass0 (pa_cons (pv 0) (pa_cons pe_int pa_nil))) (fun _ _ => rfl))))))), ?_⟩
    refine ⟨_, rfl, a, s, 5, rfl, hs, by decide, by decide, fun n s1 H1 n0 n1 hs1 B1 => ?_⟩
    tm_at "rds"
    refine ite2 (fun e => ?_) (fun e => ?_)
    · tm_at "rds"
      refine ⟨a, s1, 5, rfl, hs1, by decide, by decide, fun n2 s2 H2 n20 n21 hs2 B2 => ?_⟩
      tm_at "rds"
      exact k _ _ _ hs2 (by tm_at "bt")
    · have e' : n ≠ 0 := fun z => e (by rw [z]; exact decide_eq_true rfl)
      tm_at "rds"
      intro p G np S g
      tm_at "rds"
      obtain ⟨m, hm, hat⟩ : ∃ m : Int, (0 < m ∧ m < 2 ^ 64) ∧ atI [V.int 1, V.int 4, V.int 1000, V.int (10 ^ (12 : Int).toNat - 9)] (n - 1) = some (.int m) := by
        have : n = 1 ∨ n = 2 ∨ n = 3 ∨ n = 4 := by omega
        rcases this with rfl | rfl | rfl | rfl
        · exact ⟨1, by decide, rfl⟩
        · exact ⟨4, by decide, rfl⟩
        · exact ⟨1000, by decide, rfl⟩
        · exact ⟨_, by decide, rfl⟩
      refine ⟨_, _, _, _, rfl, rfl, sqL g, hat, ?_⟩
      refine ⟨a, s1, m, rfl, by tm_at "hp", hm.1, hm.2, fun n2 s2 H2 n20 n21 hs2 B2 => ?_⟩
      tm_at "rds"
      intro p2 G2 np2 S2 g2
      tm_at "rds"
      refine ⟨a, s2, 3, rfl, by tm_at "hp", by decide, by decide, fun n3 s3 H3 n30 n31 hs3 B3 => ?_⟩
      obtain ⟨r, hat3⟩ : ∃ r : Int, atI [V.int n2, V.int n2, V.int (0 - n2)] n3 = some (.int r) := by
        have : n3 = 0 ∨ n3 = 1 ∨ n3 = 2 := by omega
        rcases this with rfl | rfl | rfl
        · exact ⟨_, rfl⟩
        · exact ⟨_, rfl⟩
        · exact ⟨_, rfl⟩
      refine ⟨_, _, _, _, rfl, rfl, by tm_at "sql", hat3, ?_⟩
      exact k _ _ _ hs3 (by tm_at "bt")
end
end My
namespace My
open PySem PySem.Spec PyProof.Rows L2
section
variable {P : Program} {w : World} {K : PySem.W.Frag} {mg : Str → Option Value} {base : Heap}
/-- a thing and whether it is a whole number -/
def sp_w_thing : Sp := fun vs H Q _ => ∃ (a : Addr) (s : Int × Int × Int), vs = [.ref a] ∧ H a = some (src s) ∧
  ∀ (p : Addr) (x : V) (t : String) (s' : Int × Int × Int) (H' : Hp), H' a = some (src s') → H' p = some (.tup [x, .bl (isI x)]) → Ty7 H' x t → But a H H' → p ≠ a → Q (.ref p) H'
theorem ok_w_thing (T : Tx K mg) : FnOk P w K mg base CX0 4 T.d_w_thing.f T.d_w_thing.fd ["_law_source_here"] (sp_w_thing) := by
  refine T.d_w_thing.F.ok sc_w_thing (fun vs H Q E h => ?_) (fun cdv A outer s H vs Q E hr h => ?_)
  · obtain ⟨a, s, rfl, _⟩ := h
    rfl
  · obtain ⟨a, s, rfl, hs, k⟩ := h
    refine ⟨_, (pss_cons (ps_if (pt_cmpR op_eq (pe_call (ok_w_next T) (hr.mono (by decide)) (by rfl) T.d_w_next.g T.d_w_next.F.kp T.d_w_next.b .nil pass0 (pa_cons (pv 0) (pa_cons pe_int pa_nil))) pe_int (nomark _))
      (pss_one (ps_ret (pe_tupA (pa_cons (pe_call (ok_w_number T) (hr.mono (by decide)) (by rfl) T.d_w_number.g T.d_w_number.F.kp T.d_w_number.b .nil pass0 (pa_cons (pv 0) (pa_cons pe_int pa_nil))) (pa_cons pe_bl pa_nil)))))
      pss_nil)
      (pss_cons (ps_set (i := 1) sc_w_thing.nd rfl (Or.inl rfl) (pe_lstA (pa_cons pe_bl (pa_cons pe_bl (pa_cons pe_non (pa_cons pe_str (pa_cons pe_str (pa_cons pe_str (pa_cons (pe_lstA pa_nil) (pa_cons (pe_lstA (pa_cons pe_int pa_nil)) (pa_cons (pe_tupA pa_nil) (pa_cons (pe_tupA (pa_cons pe_int pa_nil)) (pa_cons pe_dnewA (pa_cons (pe_disp (pps_cons pe_int pe_int pps_nil) (by rfl) (by rfl) (fun z => by cases z) (by decide)) (pa_cons pe_str (pa_cons (pe_lstA (pa_cons pe_bl pa_nil)) (pa_cons (pe_tupA (pa_cons pe_bl pa_nil)) (pa_cons (pe_lstA (pa_cons pe_non pa_nil)) pa_nil))))))))))))))))))
      (pss_one (ps_ret (pe_tupA (pa_cons (pe_ix ix_seq (pv 1) (pe_call (ok_w_next T) (hr.mono (by decide)) (by rfl) T.d_w_next.g T.d_w_next.F.kp T.d_w_next.b .nil pass0 (pa_cons (pv 0) (pa_cons pe_int pa_nil))) (fun _ _ => rfl)) (pa_cons pe_bl pa_nil))))))), ?_⟩
    refine ⟨_, rfl, a, s, 2, rfl, hs, by decide, by decide, fun n s1 H1 n0 n1 hs1 B1 => ?_⟩
    tm_at "rds"
    refine ite2 (fun e => ?_) (fun e => ?_)
    · tm_at "rds"
      refine ⟨a, s1, 0, rfl, hs1, fun n2 s2 H2 hs2 B2 => ?_⟩
      tm_at "rds"
      intro p G np S g
      exact k p (.int n2) _ s2 _ (by tm_at "hp") g (.int _) (by tm_at "bt") (by tm_at "ne")
    · tm_at "rds"
      intro p0 G0 f0 S0 g0
      tm_at "rds"
      intro p1 G1 f1 S1 g1
      tm_at "rds"
      intro p2 G2 f2 S2 g2
      tm_at "rds"
      intro p3 G3 f3 S3 g3
      intro p4 G4 f4 S4 g4
      intro p5 f5
      refine ⟨upd_same, [(Sum.inl 5, .int 1)], rfl, by decide, ?_⟩
      rw [upd_upd]
      have S5 := Same.upd0 (o := .dK (mergeK [] [(Sum.inl 5, V.int 1)])) f5
      have g5 := upd_same (H := G4) (a := p5) (o := .dK (mergeK [] [(Sum.inl 5, V.int 1)]))
      generalize upd G4 p5 (.dK (mergeK [] [(Sum.inl 5, V.int 1)])) = G5 at S5 g5 ⊢
      tm_at "rds"
      intro p6 G6 f6 S6 g6
      tm_at "rds"
      intro p7 G7 f7 S7 g7
      tm_at "rds"
      intro p8 G8 f8 S8 g8
      tm_at "rds"
      intro p9 G9 f9 S9 g9
      tm_at "rds"
      refine ⟨a, s1, 16, rfl, by tm_at "hp", by decide, by decide, fun n2 s2 H2 n20 n21 hs2 B2 => ?_⟩
      have hl : H2 p9 = some (.lst [V.bl true, V.bl false, V.non, V.str "", V.str "5", V.str "-1", V.ref p0, V.ref p1, V.ref p2, V.ref p3, V.ref p4, V.ref p5, V.str "True", V.ref p6, V.ref p7, V.ref p8]) := by tm_at "hp"
      have h0 : H2 p0 = some (.lst []) := by tm_at "hp"
      have h1 : H2 p1 = some (.lst [V.int 5]) := by tm_at "hp"
      have h2 : H2 p2 = some (.tup []) := by tm_at "hp"
      have h3 : H2 p3 = some (.tup [V.int 5]) := by tm_at "hp"
      have h4 : H2 p4 = some (.dK []) := by tm_at "hp"
      have h5 : H2 p5 = some (.dK (mergeK [] [(Sum.inl 5, V.int 1)])) := by tm_at "hp"
      have h6 : H2 p6 = some (.lst [V.bl true]) := by tm_at "hp"
      have h7 : H2 p7 = some (.tup [V.bl false]) := by tm_at "hp"
      have h8 : H2 p8 = some (.lst [V.non]) := by tm_at "hp"
      have B : But a H H2 := by tm_at "bt"
      have pick : ∃ x t, atI [V.bl true, V.bl false, V.non, V.str "", V.str "5", V.str "-1", V.ref p0, V.ref p1, V.ref p2, V.ref p3, V.ref p4, V.ref p5, V.str "True", V.ref p6, V.ref p7, V.ref p8] n2 = some x ∧ Ty7 H2 x t ∧ isI x = false := by
        obtain ⟨m, rfl⟩ : ∃ m : Nat, n2 = (m : Int) := ⟨n2.toNat, by omega⟩
        have hm : m < 16 := by omega
        match m, hm with
        | 0, _ => exact ⟨_, _, rfl, .bl _, rfl⟩
        | 1, _ => exact ⟨_, _, rfl, .bl _, rfl⟩
        | 2, _ => exact ⟨_, _, rfl, .non, rfl⟩
        | 3, _ => exact ⟨_, _, rfl, .str _, rfl⟩
        | 4, _ => exact ⟨_, _, rfl, .str _, rfl⟩
        | 5, _ => exact ⟨_, _, rfl, .str _, rfl⟩
        | 6, _ => exact ⟨_, _, rfl, .lst h0, rfl⟩
        | 7, _ => exact ⟨_, _, rfl, .lst h1, rfl⟩
        | 8, _ => exact ⟨_, _, rfl, .tup h2, rfl⟩
        | 9, _ => exact ⟨_, _, rfl, .tup h3, rfl⟩
        | 10, _ => exact ⟨_, _, rfl, .dK h4, rfl⟩
        | 11, _ => exact ⟨_, _, rfl, .dK h5, rfl⟩
        | 12, _ => exact ⟨_, _, rfl, .str _, rfl⟩
        | 13, _ => exact ⟨_, _, rfl, .lst h6, rfl⟩
        | 14, _ => exact ⟨_, _, rfl, .tup h7, rfl⟩
        | 15, _ => exact ⟨_, _, rfl, .lst h8, rfl⟩
      obtain ⟨x, t, hx, ht, hi⟩ := pick
      refine .inl ⟨_, _, _, _, rfl, rfl, sqL hl, hx, ?_⟩
      tm_at "rds"
      intro p G np S g
      refine k p x t s2 _ (by tm_at "hp") ?_ (ht.mono ?_) (by tm_at "bt") (by tm_at "ne")
      · rw [hi]; exact g
      · tm_at "sm"
end
end My
namespace My
open PySem PySem.Spec PyProof.Rows L2
section
variable {P : Program} {w : World} {K : PySem.W.Frag} {mg : Str → Option Value} {base : Heap}
def sp_w_held : Sp := fun vs H Q _ => ∃ (n l : Int) (m : Option Int), vs = [.int n, .int l, optI m] ∧ Q (.int (heldM n l m)) H
theorem ok_w_held (T : Tx K mg) : FnOk P w K mg base CX0 1 T.d_w_held.f T.d_w_held.fd ["_law_amount", "_law_low", "_law_top"] (sp_w_held) := by
  refine T.d_w_held.F.ok sc_w_held (fun vs H Q E h => ?_) (fun cdv A outer s H vs Q E hr h => ?_)
  · obtain ⟨x, t, m, rfl, _⟩ := h
    rfl
  · obtain ⟨n, l, m, rfl, k⟩ := h
    cases m with
    | none =>
      refine ⟨_, (pss_cons (ps_if (PW.pt (pw_and (pt_cmpR op_notN (pv 2) pe_non (nomark _)) (pw_and1 (pt_cmpR op_lt (pv 2) (pv 1) (nomark _)))))
      (pss_one (ps_ret (pv 1)))
      pss_nil)
      (pss_cons (ps_if (pt_cmpR op_lt (pv 0) (pv 1) (nomark _))
      (pss_one (ps_ret (pv 1)))
      pss_nil)
      (pss_cons (ps_if (PW.pt (pw_and (pt_cmpR op_notN (pv 2) pe_non (nomark _)) (pw_and1 (pt_cmpR op_gt (pv 0) (pv 2) (nomark _)))))
      (pss_one (ps_ret (pv 2)))
      pss_nil)
      (pss_one (ps_ret (pv 0)))))), ?_⟩
      tm_at "rds"
      refine ite2 (fun e => ?_) (fun e => ?_)
      · tm_at "rds"
        have e' := of_decide_eq_true e
        have : l = heldM n l none := by simp only [heldM]; omega
        rw [this]; exact k
      · tm_at "rds"
        have e' := of_decide_eq_false (Bool.eq_false_iff.mpr e)
        have : n = heldM n l none := by simp only [heldM]; omega
        rw [this]; exact k
    | some m =>
      refine ⟨_, (pss_cons (ps_if (PW.pt (pw_and (pt_cmpR op_notN (pv 2) pe_non (nomark _)) (pw_and1 (pt_cmpR op_lt (pv 2) (pv 1) (nomark _)))))
      (pss_one (ps_ret (pv 1)))
      pss_nil)
      (pss_cons (ps_if (pt_cmpR op_lt (pv 0) (pv 1) (nomark _))
      (pss_one (ps_ret (pv 1)))
      pss_nil)
      (pss_cons (ps_if (PW.pt (pw_and (pt_cmpR op_notN (pv 2) pe_non (nomark _)) (pw_and1 (pt_cmpR op_gt (pv 0) (pv 2) (nomark _)))))
      (pss_one (ps_ret (pv 2)))
      pss_nil)
      (pss_one (ps_ret (pv 0)))))), ?_⟩
      tm_at "rds"
      refine ite2 (fun e => ?_) (fun e => ?_)
      · tm_at "rds"
        have e' := of_decide_eq_true e
        have : l = heldM n l (some m) := by simp only [heldM]; omega
        rw [this]; exact k
      have e' := of_decide_eq_false (Bool.eq_false_iff.mpr e)
      tm_at "rds"
      refine ite2 (fun e2 => ?_) (fun e2 => ?_)
      · tm_at "rds"
        have e' := of_decide_eq_true e2
        have : l = heldM n l (some m) := by simp only [heldM]; omega
        rw [this]; exact k
      have e2' := of_decide_eq_false (Bool.eq_false_iff.mpr e2)
      tm_at "rds"
      refine ite2 (fun e3 => ?_) (fun e3 => ?_)
      · tm_at "rds"
        have e' := of_decide_eq_true e3
        have : m = heldM n l (some m) := by simp only [heldM]; omega
        rw [this]; exact k
      have e3' := of_decide_eq_false (Bool.eq_false_iff.mpr e3)
      tm_at "rds"
      have : n = heldM n l (some m) := by simp only [heldM]; omega
      rw [this]; exact k
end
end My
namespace My
open PySem PySem.Spec PyProof.Rows L2
section
variable {P : Program} {w : World} {K : PySem.W.Frag} {mg : Str → Option Value} {base : Heap}
def sp_w_same : Sp := fun vs H Q _ => ∃ (i j : Int), vs = [.int i, .int j] ∧ Q (.bl (decide (i = j))) H
theorem ok_w_same (T : Tx K mg) : FnOk P w K mg base CX0 1 T.d_w_same.f T.d_w_same.fd ["_law_found", "_law_due"] (sp_w_same) := by
  refine T.d_w_same.F.ok sc_w_same (fun vs H Q E h => ?_) (fun cdv A outer s H vs Q E hr h => ?_)
  · obtain ⟨x, t, rfl, _⟩ := h
    rfl
  · obtain ⟨i, j, rfl, k⟩ := h
    refine ⟨_, (pss_one (ps_ret (pe_and (pe_callB call_isi (by rfl) T.b_isinstance (by decide +kernel) (pa_cons (pv 0) (pa_cons (pe_bltn (v := .ty "int") (by rfl) T.b_int (by decide +kernel) rfl) pa_nil))) (pe_and (pe_not (pe_callB call_isi (by rfl) T.b_isinstance (by decide +kernel) (pa_cons (pv 0) (pa_cons (pe_bltn (v := .ty "bool") (by rfl) T.b_bool (by decide +kernel) rfl) pa_nil)))) (pe_one (pe_cmpR op_eq (pv 0) (pv 1) (nomark _))))))), ?_⟩
    refine ⟨_, rfl, _, _, _, _, _, rfl, .ty _, (Ty7.int i).tx, kit_ty (Ty7.int (H := H) i).ki, _, rfl, ?_⟩
    refine ⟨_, rfl, _, _, _, _, _, rfl, .ty _, (Ty7.int i).tx, kit_ty (Ty7.int (H := H) i).kb, _, rfl, ?_⟩
    tm_at "rds"
    have e : decide (V.int i = V.int j) = decide (i = j) := decide_eq_decide.mpr ⟨V.int.inj, fun e => e ▸ rfl⟩
    rw [e]
    exact k
end
end My
namespace My
open PySem PySem.Spec PyProof.Rows L2
section
variable {P : Program} {w : World} {K : PySem.W.Frag} {mg : Str → Option Value} {base : Heap}
def sp_law (K : PySem.W.Frag) : Sp := fun vs H Q _ => ∃ (a : Addr) (ns : List Int), vs = [.ref a] ∧ SqL K H a (ns.map V.int) ∧ ns.length ≤ 63 ∧ ∀ H', Q (.bl true) H'
theorem ok_law (T : Tx K mg) : FnOk P w K mg base CX0 5 T.d_law.f T.d_law.fd ["_law_script"] (sp_law K) := by
  refine T.d_law.F.ok sc_law (fun vs H Q E h => ?_) (fun cdv A outer s H vs Q E hr h => ?_)
  · obtain ⟨a, s, rfl, _⟩ := h
    rfl
  · obtain ⟨a, ns, rfl, hS, hl, k⟩ := h
    refine ⟨_, (pss_cons (ps_for PassesOwn.never (by rfl) (pi_list (pe_op op_catA (pe_lstA (pa_cons (pe_call (ok_w_cell_at T) (hr.mono (by decide)) (by rfl) T.d_w_cell_at.g T.d_w_cell_at.F.kp T.d_w_cell_at.b .nil pass0 (pa_cons (pv 0) (pa_cons pe_int pa_nil))) pa_nil)) (pe_slice sl_listA (pv 0) (po_some pe_int) (po_some pe_int)))) (pg_name (i := 1) sc_law.nd rfl (Or.inl rfl))
      (pss_cons (ps_set (i := 2) sc_law.nd rfl (Or.inl rfl) (pe_call (ok_w_source T) (hr.mono (by decide)) (by rfl) T.d_w_source.g T.d_w_source.F.kp T.d_w_source.b .nil pass0 (pa_cons (pv 1) pa_nil)))
      (pss_cons (ps_asg (pe_call (ok_w_thing T) (hr.mono (by decide)) (by rfl) T.d_w_thing.g T.d_w_thing.F.kp T.d_w_thing.b .nil pass0 (pa_cons (pv 2) pa_nil)) (pg_tup (by rfl) (pgs_cons (pg_name (i := 3) sc_law.nd rfl (Or.inl rfl)) (pgs_cons (pg_name (i := 4) sc_law.nd rfl (Or.inl rfl)) pgs_nil))))
      (pss_cons (ps_for PassesOwn.never (by rfl) (pi_tup (pe_tupA (pa_cons (pe_call (ok_is_whole T) (hr.mono (by decide)) (by rfl) T.d_is_whole.g T.d_is_whole.F.kp T.d_is_whole.b .nil pass0 (pa_cons (pv 3) pa_nil)) (pa_cons (pe_callN0 (ok_is_whole T) (hr.mono (by decide)) (by rfl) T.d_is_whole.g T.d_is_whole.F.kp (kb_is_whole_0_thing T) pass0 (pk_cons (pv 3) pk_nil)) pa_nil)))) (pg_name (i := 5) sc_law.nd rfl (Or.inl rfl))
      (pss_one (ps_if (PW.pt (pw_or (pt_not (pt_val (pe_callB call_isi (by rfl) T.b_isinstance (by decide +kernel) (pa_cons (pv 5) (pa_cons (pe_bltn (v := .ty "bool") (by rfl) T.b_bool (by decide +kernel) rfl) pa_nil))))) (pw_or1 (pt_cmpR op_ne (pv 5) (pv 4) (nomark _)))))
      (pss_one (ps_ret pe_bl))
      pss_nil)))
      (pss_cons (ps_set (i := 6) sc_law.nd rfl (Or.inl rfl) (pe_call (ok_w_number T) (hr.mono (by decide)) (by rfl) T.d_w_number.g T.d_w_number.F.kp T.d_w_number.b .nil pass0 (pa_cons (pv 2) (pa_cons pe_int pa_nil))))
      (pss_cons (ps_set (i := 7) sc_law.nd rfl (Or.inl rfl) (pe_ix ix_list (pe_lstA (pa_cons (pe_call (ok_w_number T) (hr.mono (by decide)) (by rfl) T.d_w_number.g T.d_w_number.F.kp T.d_w_number.b .nil pass0 (pa_cons (pv 2) (pa_cons (pv 6) pa_nil))) (pa_cons pe_non pa_nil))) (pe_op op_fdivW (pe_call (ok_w_next T) (hr.mono (by decide)) (by rfl) T.d_w_next.g T.d_w_next.F.kp T.d_w_next.b .nil pass0 (pa_cons (pv 2) (pa_cons pe_int pa_nil))) pe_int) (fun _ _ => rfl)))
      (pss_cons (ps_set (i := 8) sc_law.nd rfl (Or.inl rfl) (pe_call (ok_w_number T) (hr.mono (by decide)) (by rfl) T.d_w_number.g T.d_w_number.F.kp T.d_w_number.b .nil pass0 (pa_cons (pv 2) (pa_cons (pe_ix ix_list (pe_lstA (pa_cons (pv 6) (pa_cons (pv 7) pa_nil))) (pe_op op_mul (pe_call (ok_w_next T) (hr.mono (by decide)) (by rfl) T.d_w_next.g T.d_w_next.F.kp T.d_w_next.b .nil pass0 (pa_cons (pv 2) (pa_cons pe_int pa_nil))) (pe_callTy call_int1 (by rfl) T.b_int (by decide +kernel) (pa_cons (pe_cmpR op_notN (pv 7) pe_non (nomark _)) pa_nil))) (fun _ _ => rfl)) pa_nil))))
      (pss_one (ps_for PassesOwn.never (by rfl) (pi_tup (pe_tupA (pa_cons (pe_call (ok_held T) (hr.mono (by decide)) (by rfl) T.d_held.g T.d_held.F.kp T.d_held.b .nil pass0 (pa_cons (pv 8) (pa_cons (pv 6) (pa_cons (pv 7) pa_nil)))) (pa_cons (pe_callN0 (ok_held T) (hr.mono (by decide)) (by rfl) T.d_held.g T.d_held.F.kp (kb_held_0_most_number_least T) pass0 (pk_cons (pv 7) (pk_cons (pv 8) (pk_cons (pv 6) pk_nil)))) pa_nil)))) (pg_name (i := 9) sc_law.nd rfl (Or.inl rfl))
      (pss_one (ps_if (pt_not (pt_val (pe_call (ok_w_same T) (hr.mono (by decide)) (by rfl) T.d_w_same.g T.d_w_same.F.kp T.d_w_same.b .nil pass0 (pa_cons (pv 9) (pa_cons (pe_call (ok_w_held T) (hr.mono (by decide)) (by rfl) T.d_w_held.g T.d_w_held.F.kp T.d_w_held.b .nil pass0 (pa_cons (pv 8) (pa_cons (pv 6) (pa_cons (pv 7) pa_nil)))) pa_nil)))))
      (pss_one (ps_ret pe_bl))
      pss_nil)))))))))))
      (pss_one (ps_ret pe_bl))), ?_⟩
    tm_at "rds"
    refine ⟨a, ns, rfl, hS, hl, ?_⟩
    tm_at "rds"
    intro p0 G0 f0 S0 g0
    tm_at "rds"
    refine ⟨a, _, rfl, S0.seq hS, ?_⟩
    intro p1 G1 f1 S1 g1
    refine ⟨_, _, _, _, rfl, rfl, S1 _ _ g0, g1, cells_len hl, ?_⟩
    intro p2 G2 f2 S2 g2
    generalize hcs : ([V.int (ns.headD 0)] ++ cutV (ns.map V.int) (some 1) (some 20)) = cs at g2
    have hci : ∀ i y, cs[i]? = some y → ∃ z, y = V.int z := fun i y h => cells_ints (by rw [hcs]; exact h)
    refine ⟨_, rfl, ⟨_, sqL g2⟩, for_list (K := K) (a := p2) (xs := cs) (fun i σ H3 => ∃ v1 v2 v3 v4 v5 v6 v7 v8 v9, σ = [some (.ref a), v1, v2, v3, v4, v5, v6, v7, v8, v9] ∧ H3 p2 = some (.lst cs))
      ⟨_, _, _, _, _, _, _, _, _, rfl, g2⟩ (fun i σ H3 _ ⟨_, _, _, _, _, _, _, _, _, _, q⟩ => sqL q) ?_ ?_⟩
    · rintro i y σ H3 hi ⟨v1, v2, v3, v4, v5, v6, v7, v8, v9, rfl, q3⟩
      obtain ⟨z, rfl⟩ := hci i y hi
      tm_at "rds"
      intro s H4 n4 S4 g4
      have hp4 : H4 p2 = some (.lst cs) := S4 _ _ q3
      have hp2 : p2 ≠ s := by tm_at "ne"
      tm_at "rds"
      refine ⟨s, _, rfl, g4, fun p x t s5 H5 g5 hp ht B5 nps => ?_⟩
      have hp5 : H5 p2 = some (.lst cs) := B5 _ _ hp2 hp4
      -- one, good
      refine ⟨_, _, rfl, sqT hp, rfl, _, _, rfl, _, _, rfl, rfl, ?_⟩
      tm_at "rds"
      refine ⟨x, t, rfl, ht, ?_⟩
      tm_at "rds"
      refine ⟨x, t, rfl, ht, ?_⟩
      tm_at "rds"
      intro p6 H6 n6 S6 g6
      have ht6 : Ty7 H6 x t := ht.mono S6
      refine ⟨_, rfl, ⟨_, sqT g6⟩, for_tup (K := K) (a := p6) (xs := [V.bl (isI x), V.bl (isI x)]) (fun i σ H7 => ∃ v5 : Option V, σ = [some (.ref a), some (.int z), some (.ref s), some x, some (.bl (isI x)), v5, v6, v7, v8, v9] ∧ H7 = H6)
        ⟨_, rfl, rfl⟩ (fun i σ H7 _ ⟨_, _, q⟩ => by rw [q]; exact sqT g6) ?_ ?_⟩
      · rintro i y σ H7 hi ⟨v5', rfl, rfl⟩
        have ey : y = V.bl (isI x) := by
          match i, hi with
          | 0, hi => exact (Option.some.inj hi).symm
          | 1, hi => exact (Option.some.inj hi).symm
          | i + 2, hi => simp at hi
        subst ey
        tm_at "rds"
        refine ⟨_, _, _, _, _, rfl, .ty _, (Ty7.bl (isI x)).tx, kit_ty (Ty7.bl (H := H7) (isI x)).kb, ?_⟩
        tm_at "rds"
        have e1 : (!decide (V.bl (isI x) = V.bl (isI x))) = false := by rw [decide_eq_true rfl]; rfl
        rw [e1]
        refine iteF ?_
        exact ⟨_, rfl, rfl⟩
      · rintro σ H7 ⟨v5', rfl, rfl⟩
        tm_at "rds"
        refine ⟨s, s5, 0, rfl, by tm_at "hp", fun low s8 H8 g8 B8 => ?_⟩
        have hp8 : H8 p2 = some (.lst cs) := by tm_at "hp"
        tm_at "rds"
        refine ⟨s, s8, low, rfl, g8, fun tp s9 H9 g9 B9 => ?_⟩
        tm_at "rds"
        intro pL H10 n10 S10 g10
        have npL : pL ≠ s := by tm_at "ne"
        tm_at "rds"
        refine ⟨s, s9, 6, rfl, by tm_at "hp", by decide, by decide, fun n s11 H11 n0 n1 g11 B11 => ?_⟩
        tm_at "rds"
        obtain ⟨m, hm⟩ : ∃ m : Option Int, atI [V.int tp, V.non] (n / 5) = some (optI m) := by
          have : n / 5 = 0 ∨ n / 5 = 1 := by omega
          rcases this with e | e
          · rw [e]; exact ⟨some tp, rfl⟩
          · rw [e]; exact ⟨none, rfl⟩
        refine ⟨_, _, _, _, rfl, rfl, by tm_at "sql", hm, ?_⟩
        tm_at "rds"
        intro pM H12 n12 S12 g12
        have npM : pM ≠ s := by tm_at "ne"
        tm_at "rds"
        refine ⟨s, s11, 2, rfl, by tm_at "hp", by decide, by decide, fun n2 s13 H13 n20 n21 g13 B13 => ?_⟩
        tm_at "rds"
        obtain ⟨bes, hb⟩ : ∃ bes : Int, atI [V.int low, optI m] (n2 * (if (!decide (optI m = V.non)) = true then 1 else 0)) = some (.int bes) := by
          cases m with
          | none =>
            refine ⟨low, ?_⟩
            have e : (n2 * (if (!decide (optI none = V.non)) = true then 1 else 0)) = 0 := Int.mul_zero n2
            rw [e]; rfl
          | some t =>
            have e : (n2 * (if (!decide (optI (some t) = V.non)) = true then 1 else 0)) = n2 := Int.mul_one n2
            rw [e]
            have : n2 = 0 ∨ n2 = 1 := by omega
            rcases this with e | e
            · rw [e]; exact ⟨low, rfl⟩
            · rw [e]; exact ⟨t, rfl⟩
        refine ⟨_, _, _, _, rfl, rfl, by tm_at "sql", hb, ?_⟩
        tm_at "rds"
        refine ⟨s, s13, bes, rfl, by tm_at "hp", fun am s14 H14 g14 B14 => ?_⟩
        have hp14 : H14 p2 = some (.lst cs) := by tm_at "hp"
        tm_at "rds"
        refine ⟨am, low, m, rfl, ?_⟩
        tm_at "rds"
        refine ⟨am, low, m, rfl, ?_⟩
        tm_at "rds"
        intro p15 H15 n15 S15 g15
        have hp15 : H15 p2 = some (.lst cs) := S15 _ _ hp14
        refine ⟨_, rfl, ⟨_, sqT g15⟩, for_tup (K := K) (a := p15) (xs := [V.int (heldM am low m), V.int (heldM am low m)]) (fun i σ H7 => ∃ v9 : Option V, σ = [some (.ref a), some (.int z), some (.ref s), some x, some (.bl (isI x)), v5', some (.int low), some (optI m), some (.int am), v9] ∧ H7 = H15)
          ⟨_, rfl, rfl⟩ (fun i σ H7 _ ⟨_, _, q⟩ => by rw [q]; exact sqT g15) ?_ ?_⟩
        · rintro i y σ H7 hi ⟨v9', rfl, rfl⟩
          have ey : y = V.int (heldM am low m) := by
            match i, hi with
            | 0, hi => exact (Option.some.inj hi).symm
            | 1, hi => exact (Option.some.inj hi).symm
            | i + 2, hi => simp at hi
          subst ey
          tm_at "rds"
          refine ⟨am, low, m, rfl, ?_⟩
          tm_at "rds"
          have e1 : decide (heldM am low m = heldM am low m) = true := decide_eq_true rfl
          rw [e1]
          refine iteF ?_
          exact ⟨_, rfl, rfl⟩
        · rintro σ H7 ⟨v9', rfl, rfl⟩
          exact ⟨_, _, _, _, _, _, _, _, _, rfl, hp15⟩
    · rintro σ H3 ⟨v1, v2, v3, v4, v5, v6, v7, v8, v9, rfl, q3⟩
      exact k _
end
end My
namespace My
open PySem L2
theorem law_end {l : PySem.W.OpenLaw} {w : World} {K : PySem.W.Frag} {mg : Str → Option Value} {fa : Addr} (hfa : mg "law" = some (.ref fa)) (T : Tx K mg) :
    ∃ fd : FuncData, (∀ (s : Shared) (v : Value), BindsTo s fd ⟨[v], []⟩ [("_law_script", v)]) ∧ ∀ base : Heap, K.In base → base.Ns mainGlobals mg → FnOk l.prog w K mg base CX0 5 fa fd ["_law_script"] (sp_law K) := by
  have e := hfa.symm.trans T.d_law.g
  cases e
  refine ⟨T.d_law.fd, fun s v => ?_, fun base _ _ => ok_law T⟩
  obtain ⟨oc, od, kV, doc, pm, an, cdv, ct, osl, e, _, _⟩ := T.d_law.F.ex
  rw [e]
  exact .of_eq rfl
end My
open PySem PySem.W PyProof.Rows
set_option maxRecDepth 100000 in
set_option maxHeartbeats 0 in
theorem PySem.Challenge.cw_nestlaid_k01_whole_numbers_and_bounds_holds : PySem.Challenge.rw_nestlaid_k01_whole_numbers_and_bounds.Holds := by
  w_on; o_law; k_head; (case hw => w_witness2)
  k_fill
  refine L2.walk_of (l := PySem.Challenge.rw_nestlaid_k01_whole_numbers_and_bounds) (n := 63) (k := 5) (x := "_law_script") (CX := fun _ => L2.CX0) (sp := fun w => My.sp_law _) rfl (by decide) rfl ⟨rfl, by decide, by decide⟩ (fun w h Y => PySem.W.kIn_of Y) ?F (fun _ _ a ns hl _ hS => ⟨a, ns, rfl, hS, hl, fun _ => rfl⟩) (fun _ _ _ _ _ h => h)
  case F =>
    intro w mg fa h KX G hmg
    refine' My.law_end hmg { d_is_whole := My.df_mk KX G ?a1 ?l1 ?c1 ?k1 (fun _ _ _ _ _ _ us hl => match us, hl with | [_], _ => rfl), d_held := My.df_mk KX G ?a2 ?l2 ?c2 ?k2 (fun _ _ _ _ _ _ us hl => match us, hl with | [_, _, _], _ => rfl), d_w_cell_at := My.df_mk KX G ?a3 ?l3 ?c3 ?k3 (fun _ _ _ _ _ _ us hl => match us, hl with | [_, _], _ => rfl), d_w_mixed := My.df_mk KX G ?a4 ?l4 ?c4 ?k4 (fun _ _ _ _ _ _ us hl => match us, hl with | [_, _], _ => rfl), d_w_source := My.df_mk KX G ?a5 ?l5 ?c5 ?k5 (fun _ _ _ _ _ _ us hl => match us, hl with | [_], _ => rfl), d_w_next := My.df_mk KX G ?a6 ?l6 ?c6 ?k6 (fun _ _ _ _ _ _ us hl => match us, hl with | [_, _], _ => rfl), d_w_number := My.df_mk KX G ?a7 ?l7 ?c7 ?k7 (fun _ _ _ _ _ _ us hl => match us, hl with | [_, _], _ => rfl), d_w_thing := My.df_mk KX G ?a8 ?l8 ?c8 ?k8 (fun _ _ _ _ _ _ us hl => match us, hl with | [_], _ => rfl), d_w_held := My.df_mk KX G ?a9 ?l9 ?c9 ?k9 (fun _ _ _ _ _ _ us hl => match us, hl with | [_, _, _], _ => rfl), d_w_same := My.df_mk KX G ?a10 ?l10 ?c10 ?k10 (fun _ _ _ _ _ _ us hl => match us, hl with | [_, _], _ => rfl), d_law := My.df_mk KX G ?a11 ?l11 ?c11 ?k11 (fun _ _ _ _ _ _ us hl => match us, hl with | [_], _ => rfl), b_bool := PySem.W.mg_none_of KX G ?z_bool, b_int := PySem.W.mg_none_of KX G ?z_int, b_isinstance := PySem.W.mg_none_of KX G ?z_isinstance, b_len := PySem.W.mg_none_of KX G ?z_len, b_max := PySem.W.mg_none_of KX G ?z_max, b_min := PySem.W.mg_none_of KX G ?z_min }
    (case a1 => k_is)
    (case l1 => k_is)
    (case c1 => k_is)
    (case k1 => k_is)
    (case a2 => k_is)
    (case l2 => k_is)
    (case c2 => k_is)
    (case k2 => k_is)
    (case a3 => k_is)
    (case l3 => k_is)
    (case c3 => k_is)
    (case k3 => k_is)
    (case a4 => k_is)
    (case l4 => k_is)
    (case c4 => k_is)
    (case k4 => k_is)
    (case a5 => k_is)
    (case l5 => k_is)
    (case c5 => k_is)
    (case k5 => k_is)
    (case a6 => k_is)
    (case l6 => k_is)
    (case c6 => k_is)
    (case k6 => k_is)
    (case a7 => k_is)
    (case l7 => k_is)
    (case c7 => k_is)
    (case k7 => k_is)
    (case a8 => k_is)
    (case l8 => k_is)
    (case c8 => k_is)
    (case k8 => k_is)
    (case a9 => k_is)
    (case l9 => k_is)
    (case c9 => k_is)
    (case k9 => k_is)
    (case a10 => k_is)
    (case l10 => k_is)
    (case c10 => k_is)
    (case k10 => k_is)
    (case a11 => k_is)
    (case l11 => k_is)
    (case c11 => k_is)
    (case k11 => k_is)
    (case z_bool => k_is)
    (case z_int => k_is)
    (case z_isinstance => k_is)
    (case z_len => k_is)
    (case z_max => k_is)
    (case z_min => k_is)
#print axioms PySem.Challenge.cw_nestlaid_k01_whole_numbers_and_bounds_holds
