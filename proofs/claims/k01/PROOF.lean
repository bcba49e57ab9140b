import PyProof.Rows.All
import Wide.All
import OpenK.AllK
import Wide.FinOn
import HandS.ForMost
import HandS.Evl
import HandS.DictComp
import HandS.SortKw
import HandS.Conv
import HandS.IsInst
import HandS.Flow
import HandS.Defaults
import HandS.Lambda
import KE.SortKeyHeap
import HandS.Walk
import PyProof.TupleOfGen
import KE.KDictSum
import KE.GoesMore
import HandS.More
import KE.GoesEnum
import HandS.Text
import HandS.ExcSuper
import HandS.ExcInit
import KE.KExcSuper
import HandS.ForExc
import HandS.HotCalls
import HandS.ExcIs
import HandS.ExcField
import KE.KExcIs
import HandS.NoneIn
import PyProof.StrOps2
import HandS.TupMul
import HandS.Codes
import HandS.Rev
import PyProof.ListNew
import HandS.ExcCtx
import HandS.CallSlots
import KE.KNestM
import HandS.MakeKw
import PySem.Challenge.RW_rulesonrules_k01_signatures_made_or_refu
set_option Elab.async false
set_option linter.all false
set_option maxRecDepth 100000
set_option maxHeartbeats 4000000
-- KSort
/-! sorted(xs, key=f) of texts over the hand layer; max with a default -/
namespace KSort
open PySem PySem.Spec PyProof.Rows L2
section
variable {X : Cx} {pins : List (Addr × Obj)} {σ : L2.St} {H : Hp} {s : Shared}
/-- the value is this text -/
def TxtOf (v : Value) (x : Str) : Prop := ∃ t, v = Value.str x t
theorem each_txt : ∀ {ss : List Str} {us : List Value}, Vals (ss.map V.str) us → PySem.W.EachIs TxtOf us ss
  | [], us, h => by
    cases us with
    | nil => exact .nil
    | cons u us => cases h
  | x :: ss, us, h => by
    cases us with
    | nil => cases h
    | cons u us =>
      cases h with
      | cons r t => exact .cons r (each_txt t)
theorem vals_txt : ∀ {ss : List Str} {us : List Value}, PySem.W.EachIs TxtOf us ss → Vals (ss.map V.str) us
  | _, _, .nil => .nil
  | _, _, .cons r t => .cons r (vals_txt t)
/-- the sort by a key that is pure at each of the texts -/
theorem sorted_by_run {a f : Addr} {ss : List Str} {k : Str → PyData} {Q : VK} (I : Inv X pins σ H s) (hs : SqL X.K H a (ss.map V.str)) (hal : PySem.W.AllAlike (ss.map k)) (hso : PySem.W.Sortable (ss.map k))
    (hu : ∀ x ∈ ss, X.A.units + 2 + (k x).depth < cLine)
    (turn : ∀ x ∈ ss, ∀ (t : Tok) (h : Heap) (tk : Nat), (∀ b o, s.heap.get? b = some o → h.get? b = some o) →
      wpAny (model X.prog X.w) X.A.in1.in1 (call (.ref f) [.str x t]) (PySem.W.KeyPure (k x) { s with heap := h, toks := tk }) (fun _ _ => False) { s with heap := h, toks := tk })
    (q : ∀ p, H p = none → Q (.ref p) (upd H p (.lst ((ss.mergeSort (PySem.W.dataLe false k)).map V.str)))) :
    wpAny (model X.prog X.w) X.A (call (.builtin "sorted") [.ref a] [(Str.ofString "key", .ref f)]) (EP X pins σ Q) X.xe s := by
  obtain ⟨its, rv, hl, hz⟩ := I.list hs
  have hz' : ss.length ≤ sizeLine := by
    rw [List.length_map] at hz
    exact hz
  refine PySem.W.sorted_key_data (b := false) (R := TxtOf) k hl.isList (each_txt rv) hal hso hz' hu (ksk_s1 _ _) (fun _ => ksk_l1 _ _) (fun x => ksk_t1 f x) ?_ ?_
  · rintro v x ⟨t, rfl⟩ hx h tk hk
    exact turn x hx t h tk hk
  · intro out c h' tk hk fresh hD hlen hE
    have hv := vals_txt hE
    refine ⟨.ref (s.heap.objs.size + 1), upd H (s.heap.objs.size + 1) (.lst ((ss.mergeSort (PySem.W.dataLe false k)).map V.str)), I.laid hk (Nat.le_succ _) ?_, rfl, q _ (I.hok.fresh (Nat.le_succ _))⟩
    refine ⟨?_, out, c, hv, hD⟩
    rw [List.length_map, List.length_mergeSort]
    exact hz'
end
end KSort
-- KPure
/-! pure expressions of one call: they keep all objects that stood -/
namespace KPure
open PySem PySem.Spec PyProof.Rows L2
section
variable {P : Program} {w : World} {A : Around} {E : Value → Shared → Prop} {env : Env} {s₀ : Shared} {L : Addr} {m : Str → Option Value}
/-- the expression's value, from any state of this call -/
def PV (P : Program) (w : World) (A : Around) (E : Value → Shared → Prop) (env : Env) (s₀ : Shared) (L : Addr) (m : Str → Option Value) (e : Expr) (W : Heap → Value → Prop) : Prop :=
  ∀ s, InCall s₀ L m s → wpAny (model P w) A (eval e env) (fun v s' => InCall s₀ L m s' ∧ W s'.heap v ∧ ∀ b o, s.heap.get? b = some o → s'.heap.get? b = some o) E s
theorem pv_name {x : Str} {v : Value} {pos : Pos} (hL : env.locals = L) (hk : env.scope.kind = .function) (hl : env.kindOf x = some .local) (hv : m x = some v) (hd : (x == ("__debug__" : Str)) = false := by decide) :
    PV P w A E env s₀ L m (.Name x pos) (fun _ u => u = v) := fun s I => by
  subst hL
  exact wpAny_Name (wpAny_loadName_local hk hl I.ns hv ⟨I, rfl, fun _ _ h => h⟩) hd
theorem pv_sub0 {a : Expr} {x : Str} {t : Tok} {c : Nat} {j : Nat} {p pos : Pos} (ha : PV P w A E env s₀ L m a (fun _ u => u = .str x t)) (hc : x.cps[0]? = some c) (hn : 0 < x.length) :
    PV P w A E env s₀ L m (.Subscript a (.Constant (.int 0) j p) pos) (fun _ u => ∃ t, u = .str ⟨#[c]⟩ t) := fun s I => by
  refine Subscript_ (thn (ha s I) fun v s1 ⟨I1, e, k1⟩ => ?_)
  subst e
  refine wpAny_Constant_int ?_
  have e : seqIndex? 0 x.length = some 0 := PySem.StrLaws.seqIndex_nonneg (Int.le_refl 0) (by omega)
  refine tail_any (ops := [.int 0 s1.toks, .str x t]) (typeIs_str _ x t) slot_str_getitem.lookup (getItem_str (c := c) rfl (by rw [e]; exact hc) ⟨(I1.tok _).tok _, ⟨_, rfl⟩, k1⟩) (by with_unfolding_all rfl)
/-- e[1:] of a text -/
theorem pv_sl1 {a : Expr} {x : Str} {t : Tok} {j : Nat} {p q pos : Pos} (ha : PV P w A E env s₀ L m a (fun _ u => u = .str x t)) (hz : x.length ≤ sizeLine) :
    PV P w A E env s₀ L m (.Subscript a (.Slice (some (.Constant (.int 1) j p)) none none q) pos) (fun _ u => ∃ t, u = .str (cutS x (some 1) none) t) := fun s I => by
  refine Subscript_ (thn (ha s I) fun v s1 ⟨I1, e, k1⟩ => ?_)
  subst e
  refine wpAny_Slice ?_
  rw [evalPart_some]
  refine wpAny_Constant_int ?_
  rw [evalPart_none]
  refine wpAny_pure ?_
  refine wpAny_pure ?_
  have I2 := I1.pushedS { cls := .type "slice", data := .fields #[.int 1 s1.toks, .none, .none] } (s1.toks + 1)
  have k2 : ∀ b o, s.heap.get? b = some o → (s1.heap.push { cls := .type "slice", data := .fields #[.int 1 s1.toks, .none, .none] }).get? b = some o := fun b o h => Heap.get?_push_of_some _ (k1 b o h)
  refine tail_any (ops := [.ref s1.heap.objs.size, .str x t]) (typeIs_str _ x t) slot_str_getitem.lookup
    (wpAny_getItem_str_slice (l := some (1, s1.toks)) (u := none) (st := none) ⟨_, Heap.get?_push_size _ rfl, rfl, rfl⟩ rfl ?_) (by with_unfolding_all rfl)
  have e2 := sliceText_cut x (some 1) none
  have e3 : (PySem.StrLaws.sliceText x (some 1) none).length ≤ sizeLine := by
    rw [e2]
    exact Nat.le_trans (cutS_length x (some 1) none) hz
  unfold PySem.StrLaws.sliceText at e2 e3
  show Made.post (if ((1 : Int) == 1 && (Builtin.Str.strSliceIndices (some 1) none 1 x.length).length == x.length) = true then Made.val (.str x t) else Made.str ⟨((Builtin.Str.strSliceIndices (some 1) none 1 x.length).filterMap (x.cps[·]?)).toArray⟩) _ _
  by_cases c : ((1 : Int) == 1 && (Builtin.Str.strSliceIndices (some 1) none 1 x.length).length == x.length) = true
  · rw [if_pos c] at e2 ⊢
    exact ⟨I2, ⟨t, by rw [← e2]⟩, k2⟩
  · rw [if_neg c] at e2 e3 ⊢
    rw [← e2]
    exact ⟨e3, I2.tok _, ⟨_, rfl⟩, k2⟩
/-- a built-in name -/
theorem pv_blt {mg mb : Str → Option Value} {x : Str} {u : Value} {p : Pos} {s : Shared} {Q : Value → Shared → Prop} (hk : env.scope.kind = .function) (hg : env.kindOf x = some .globalImplicit) (nG : s.heap.Ns env.globals mg) (hm : mg x = none) (nB : s.heap.Ns env.builtins mb) (hv : mb x = some u)
    (hd : (x == ("__debug__" : Str)) = false) (h : Q u s) : wpAny (model P w) A (eval (.Name x p) env) Q E s :=
  Calls.Name_function_global hk hg (Calls.loadGlobal_builtin nG hm nB hv h) hd
/-- int(a), len(a) -/
theorem pv_int {mg mb : Str → Option Value} {a : Expr} {x : Str} {n : Int} {p pos : Pos} (hk : env.scope.kind = .function) (hg : env.kindOf "int" = some .globalImplicit) (nG : s₀.heap.Ns env.globals mg) (hm : mg "int" = none) (nB : s₀.heap.Ns env.builtins mb) (hv : mb "int" = some (.type "int"))
    (ha : PV P w A E env s₀ L m a (fun _ u => ∃ t, u = .str x t)) (hx : PySem.intText? x = some n) (hl : x.length ≤ 640) (hs : starEach [a] env = (false, eval a env) :: starEach [] env := by rfl) :
    PV P w A E env s₀ L m (.Call (.Name "int" p) [a] [] pos) (fun _ u => ∃ t, u = .int n t) := fun s I => by
  refine wpAny_Call_Name_kw (pv_blt hk hg (nG.keeps I.keep) hm (nB.keeps I.keep) hv (by decide) ?_)
  refine PyProof.Rows.callWith_type1 (args_cons (thn (ha s I) fun v s1 ⟨I1, ⟨t, e⟩, k1⟩ => args_nil ?_) hs) hs rfl
  subst e
  exact PySem.W.KIN.call_text hx hl ⟨I1.tok _, ⟨_, rfl⟩, k1⟩
theorem pv_len {mg mb : Str → Option Value} {a : Expr} {x : Str} {p pos : Pos} (hk : env.scope.kind = .function) (hg : env.kindOf "len" = some .globalImplicit) (nG : s₀.heap.Ns env.globals mg) (hm : mg "len" = none) (nB : s₀.heap.Ns env.builtins mb) (hv : mb "len" = some (.builtin "len"))
    (ha : PV P w A E env s₀ L m a (fun _ u => ∃ t, u = .str x t)) (hl : x.length ≤ 100000) (hs : starEach [a] env = (false, eval a env) :: starEach [] env := by rfl) :
    PV P w A E env s₀ L m (.Call (.Name "len" p) [a] [] pos) (fun _ u => ∃ t, u = .int (x.length : Int) t) := fun s I => by
  refine wpAny_Call_Name_kw (pv_blt hk hg (nG.keeps I.keep) hm (nB.keeps I.keep) hv (by decide) ?_)
  refine PyProof.Rows.callWith_builtin1 (args_cons (thn (ha s I) fun v s1 ⟨I1, ⟨t, e⟩, k1⟩ => args_nil ?_) hs) hs rfl
  subst e
  exact len_str (by omega) ⟨(I1.tok _).tok _, ⟨_, rfl⟩, k1⟩
/-- a text or a whole number, as a value -/
def Atom (k : PyData) (u : Value) : Prop := (∃ y t, k = .str y ∧ u = .str y t) ∨ ∃ i t, k = .int i ∧ u = .int i t
theorem Atom.reads {h : Heap} {k : PyData} {u : Value} (r : Atom k u) : Reads h u k [] := by
  rcases r with ⟨y, t, rfl, rfl⟩ | ⟨i, t, rfl, rfl⟩
  · exact .str y t
  · exact .int i t
theorem PV.imp {e : Expr} {W W' : Heap → Value → Prop} (h : PV P w A E env s₀ L m e W) (hi : ∀ g u, W g u → W' g u) : PV P w A E env s₀ L m e W' := fun s I => thn (h s I) fun v s' ⟨a, b, c⟩ => ⟨a, hi _ _ b, c⟩
theorem reads_two {h : Heap} {u v : Value} {ka kb : PyData} (r1 : Reads h u ka []) (r2 : Reads h v kb []) : ReadsAll h [u, v] [ka, kb] [] := .cons r1 (.cons r2 .nil)
theorem reads_three {h : Heap} {u v z : Value} {ka kb kc : PyData} (r1 : Reads h u ka []) (r2 : Reads h v kb []) (r3 : Reads h z kc []) : ReadsAll h [u, v, z] [ka, kb, kc] [] := .cons r1 (.cons r2 (.cons r3 .nil))
/-- (a, b) as data -/
theorem pv_tup2 {a b : Expr} {ka kb : PyData} {x1} {pos : Pos} (ha : PV P w A E env s₀ L m a fun _ u => Atom ka u) (hb : PV P w A E env s₀ L m b fun _ u => Atom kb u)
    (h1 : starEach [a, b] env = (false, eval a env) :: starEach [b] env := by rfl) (h2 : starEach [b] env = (false, eval b env) :: starEach [] env := by rfl) :
    PV P w A E env s₀ L m (.Tuple [a, b] x1 pos) (fun h u => Reads h u (.tuple [ka, kb]) []) := fun s I => by
  refine wpAny_Tuple_spliced ?_
  refine args_cons (thn (ha s I) fun u s1 ⟨I1, r1, k1⟩ => args_cons (thn (hb s1 I1) fun v s2 ⟨I2, r2, k2⟩ => args_nil ?_) h2) h1
  refine ⟨(by show 2 ≤ sizeLine; decide), I2.pushedS _ _, ?_, fun b o e => Heap.get?_push_of_some _ (k2 b o (k1 b o e))⟩
  exact .tuple (Heap.get?_push_size _ rfl) rfl rfl (reads_two r1.reads r2.reads)
theorem pv_tup3 {a b c : Expr} {ka kb kc : PyData} {x1} {pos : Pos} (ha : PV P w A E env s₀ L m a fun _ u => Atom ka u) (hb : PV P w A E env s₀ L m b fun _ u => Atom kb u) (hc : PV P w A E env s₀ L m c fun _ u => Atom kc u)
    (h1 : starEach [a, b, c] env = (false, eval a env) :: starEach [b, c] env := by rfl) (h2 : starEach [b, c] env = (false, eval b env) :: starEach [c] env := by rfl) (h3 : starEach [c] env = (false, eval c env) :: starEach [] env := by rfl) :
    PV P w A E env s₀ L m (.Tuple [a, b, c] x1 pos) (fun h u => Reads h u (.tuple [ka, kb, kc]) []) := fun s I => by
  refine wpAny_Tuple_spliced ?_
  refine args_cons (thn (ha s I) fun u s1 ⟨I1, r1, k1⟩ => args_cons (thn (hb s1 I1) fun v s2 ⟨I2, r2, k2⟩ => args_cons (thn (hc s2 I2) fun z s3 ⟨I3, r3, k3⟩ => args_nil ?_) h3) h2) h1
  refine ⟨(by show 3 ≤ sizeLine; decide), I3.pushedS _ _, ?_, fun b o e => Heap.get?_push_of_some _ (k3 b o (k2 b o (k1 b o e)))⟩
  exact .tuple (Heap.get?_push_size _ rfl) rfl rfl (reads_three r1.reads r2.reads r3.reads)
end
end KPure
-- KKey
/-! a def of the text as the key of a sort: it is pure -/
namespace KKey
open PySem PySem.Spec PyProof.Rows L2 KSort KPure
/-- f(x) is pure and gives the key k x, wherever the room allows -/
def KeyFn (P : Program) (w : World) (K : PySem.W.Frag) (mg : Str → Option Value) (base : Heap) (f : Addr) (C : Str → Prop) (k : Str → PyData) : Prop :=
  ∀ (A : Around) (s : Shared) (x : Str) (t : Tok), C x → Mod K mg base → (∀ b o, base.get? b = some o → s.heap.get? b = some o) → Room 1 A →
    wpAny (model P w) A (call (.ref f) [.str x t]) (PySem.W.KeyPure (k x) s) (fun _ _ => False) s
section
variable {P : Program} {w : World} {K : PySem.W.Frag} {mg : Str → Option Value} {base : Heap}
/-- def f(x): return (x[0], int(x[1:])) -/
theorem key_cap_num {f : Addr} {nm : Str} {pars : Arguments} {body : List Stmt} {scope : Scope} {dV kV doc pm cdv ct oc : Value} {an od : Option Addr} {osl : Array (Option Value)} {C : Str → Prop} {cp : Str → Nat} {num : Str → Int} {p1 p2 p3 p4 p5 p6 p7 p8 p9 p10 p11 : Pos} {j1 j2 : Nat} {x1 : Nat} {a : Str}
    (lk : K.lookup f = some ⟨oc, od, .func (PySem.W.fnOf nm nm pars body scope dV kV doc pm an cdv ct), osl⟩) (hcd : PySem.W.codeIn K cdv nm = true)
    (hb : body = [.Return (some (.Tuple [.Subscript (.Name a p1) (.Constant (.int 0) j1 p2) p3, .Call (.Name "int" p4) [.Subscript (.Name a p5) (.Slice (some (.Constant (.int 1) j2 p6)) none none p7) p8] [] p9] x1 p10)) p11])
    (hk : scope.kind = .function) (hco : scope.isCoroutine = false) (hgn : scope.isGenerator = false) (hloc : scope.names.lookup a = some .local) (hint : scope.names.lookup ("int" : Str) = some .globalImplicit) (hcell : ∀ x ∈ scope.names, x.2 ≠ .cell) (had : (a == ("__debug__" : Str)) = false)
    (hbind : ∀ u : Value, bindArgs (PySem.W.fnOf nm nm pars body scope dV kV doc pm an cdv ct) ⟨[u], []⟩ = pure [(a, u)]) (mi : mg "int" = none)
    (hc : ∀ x, C x → x.cps[0]? = some (cp x) ∧ 0 < x.length ∧ x.length ≤ 640 ∧ PySem.intText? (cutS x (some 1) none) = some (num x)) :
    KeyFn P w K mg base f C fun x => .tuple [.str ⟨#[cp x]⟩, .int (num x)] := by
  intro A s x t hx M kp hr
  obtain ⟨c0, c1, c2, c3⟩ := hc x hx
  subst hb
  have nG : s.heap.Ns mainGlobals mg := M.glob.keeps kp
  obtain ⟨mb, nb, hmb⟩ := M.blt
  have nB := nb.keeps kp
  have KX : K.In s.heap := M.kin.keeps kp
  have hs : sizeLine = 16777216 := sizeLine_eq
  refine wpAny_call (codeAny_call_straight hr.depth (KX _ _ lk) rfl (M.nolimit.keeps kp) (PySem.W.codeRec_of KX hcd) rfl (hbind (.str x t)) hcell (fun y hy => ?_) (fun s1 I1 => ?_) hco hgn hk)
  · rw [List.mem_singleton.mp hy]
    exact hloc
  generalize hfd : PySem.W.fnOf nm nm pars _ scope dV kV doc pm an cdv ct = fd at I1
  have e1 : (callEnv fd s.heap.objs.size f).locals = s.heap.objs.size := rfl
  have e2 : (callEnv fd s.heap.objs.size f).scope = scope := by rw [← hfd]; rfl
  have e3 : (callEnv fd s.heap.objs.size f).kindOf a = some .local := by rw [← hfd]; exact hloc
  have e4 : (callEnv fd s.heap.objs.size f).kindOf ("int" : Str) = some .globalImplicit := by rw [← hfd]; exact hint
  have e5 : (callEnv fd s.heap.objs.size f).scope.kind = .function := by rw [e2]; exact hk
  have e6 : (callEnv fd s.heap.objs.size f).globals = mainGlobals := by rw [← hfd]; rfl
  have e7 : (callEnv fd s.heap.objs.size f).builtins = builtinsNs := by rw [← hfd]; rfl
  have va : ∀ {q : Pos} {E : Value → Shared → Prop}, PV P w (A.deeper (callEnv fd s.heap.objs.size f)) E (callEnv fd s.heap.objs.size f) s s.heap.objs.size (fun y => List.lookup y [(a, Value.str x t)].reverse) (.Name a q) (fun _ u => u = .str x t) :=
    fun {q E} => pv_name e1 e5 e3 (by simp) had
  refine wpAny_execs_cons (wpAny_Return_some (thn (pv_tup2 (x1 := x1) (pos := p10) (ka := .str ⟨#[cp x]⟩) (kb := .int (num x))
    ((pv_sub0 (j := j1) (p := p2) (pos := p3) (va (q := p1)) c0 c1).imp fun _ u he => .inl ⟨_, he.choose, rfl, he.choose_spec⟩)
    ((pv_int (p := p4) (pos := p9) e5 e4 (by rw [e6]; exact nG) mi (by rw [e7]; exact nB) ((hmb "int" (by decide)).trans boot_int) (pv_sl1 (j := j2) (p := p6) (q := p7) (pos := p8) (va (q := p5)) (by omega)) c3 (Nat.le_trans (cutS_length x (some 1) none) c2)).imp
      fun _ u he => .inr ⟨_, he.choose, rfl, he.choose_spec⟩) rfl rfl s1 I1) fun u s2 ⟨I2, r2, k2⟩ => ?_))
  obtain ⟨h', tk, e, kp2⟩ := I2.done
  subst e
  exact ⟨h', tk, rfl, kp2, r2⟩
end
/-- sorted(xs, key=f), f a def that is pure -/
def rSortKey (K : PySem.W.Frag) (f : Addr) (C : Str → Prop) (k : Str → PyData) : List V → List V → Hp → VK → Prop := fun vs zs H Q => ∃ (a : Addr) (ss : List Str), vs = [.ref a] ∧ zs = [.ref f] ∧ SqL K H a (ss.map V.str) ∧ (∀ x ∈ ss, C x) ∧
  ∀ p, H p = none → Q (.ref p) (upd H p (.lst ((ss.mergeSort (PySem.W.dataLe false k)).map V.str)))
theorem Inv.bkAll {X : Cx} {pins : List (Addr × Obj)} {σ : L2.St} {H : Hp} {s : Shared} {h : Heap} {tk : Nat} (I : Inv X pins σ H s) (kp : ∀ b o, s.heap.get? b = some o → h.get? b = some o) : ∀ b o, X.base.get? b = some o → h.get? b = some o := fun b o e => kp b o (I.bk b o e)
theorem cr_sortKey {X : Cx} {f : Addr} {C : Str → Prop} {k : Str → PyData} (F : KeyFn X.prog X.w X.K X.mg X.base f C k) (hr : Room 3 X.A) (hal : ∀ x y, C x → C y → PySem.W.alike (k x) (k y) = true) (htup : ∀ x, C x → ∃ y r, k x = .tuple (y :: r)) (hd : ∀ x, C x → (k x).depth ≤ 8) :
    CallRK X (.builtin "sorted") [Str.ofString "key"] (rSortKey X.K f C k) := by
  intro pins s σ H vs zs us ws Q I r rz h
  obtain ⟨a, ss, rfl, rfl, hs, hC, q⟩ := h
  obtain rfl := Vals.ref1 r
  obtain ⟨w1, rfl, e1⟩ := vals1 rz
  obtain rfl : w1 = Value.ref f := e1
  refine sorted_by_run (k := k) I hs (fun d hd d' hd' => ?_) (.inl fun d hd => ?_) (fun x hx => ?_) (fun x hx t h tk kp => ?_) q
  · obtain ⟨x, hx, rfl⟩ := List.mem_map.mp hd
    obtain ⟨y, hy, rfl⟩ := List.mem_map.mp hd'
    exact hal x y (hC x hx) (hC y hy)
  · obtain ⟨x, hx, rfl⟩ := List.mem_map.mp hd
    exact htup x (hC x hx)
  · have h1 := hr.un
    have h2 := hd x (hC x hx)
    omega
  · exact F _ _ x t (hC x hx) I.mod (fun b o e => kp b o (I.bk b o e)) (hr.in1.in1)
end KKey
-- KLamSort
/-! sorted(xs, key=lambda a: (a[0], len(a), a)) over the hand layer -/
namespace KLamS
open PySem PySem.Spec PyProof.Rows L2 LamX KSort KPure KKey
/-- the lambda's body as a key: (a[0], len(a), a) -/
def lamBody (a : Str) (p1 p2 p3 p4 p5 p6 p7 p8 : Pos) (j1 x1 : Nat) : Expr :=
  .Tuple [.Subscript (.Name a p1) (.Constant (.int 0) j1 p2) p3, .Call (.Name "len" p4) [.Name a p5] [] p6, .Name a p7] x1 p8
/-- the order that this key gives -/
def lamKey (cp : Str → Nat) (x : Str) : PyData := .tuple [.str ⟨#[cp x]⟩, .int (x.length : Int), .str x]
section
variable {P : Program} {w : World} {K : PySem.W.Frag} {mg : Str → Option Value} {base : Heap}
/-- one call of the lambda -/
theorem lam_key_call {A : Around} {s : Shared} {f c' : Addr} {qual : Str} {params : Arguments} {scope : Scope} {pm ctv : Value} {a : Str} {x : Str} {t : Tok} {c : Nat} {p1 p2 p3 p4 p5 p6 p7 p8 : Pos} {j1 x1 : Nat}
    (hf : s.heap.get? f = some (PySem.W.kla_obj "<lambda>" qual params (lamBody a p1 p2 p3 p4 p5 p6 p7 p8 j1 x1) scope [] pm c' ctv)) (hcd : s.heap.CodeRec (.ref c') qual)
    (hk : scope.kind = .function) (hco : scope.isCoroutine = false) (hgn : scope.isGenerator = false) (hloc : scope.names.lookup a = some .local) (hlen : scope.names.lookup ("len" : Str) = some .globalImplicit) (hcell : ∀ x ∈ scope.names, x.2 ≠ .cell) (had : (a == ("__debug__" : Str)) = false)
    (hbind : bindArgs (PySem.W.kla_fn "<lambda>" qual params (lamBody a p1 p2 p3 p4 p5 p6 p7 p8 j1 x1) scope [] pm (.ref c') ctv) ⟨[.str x t], []⟩ = pure [(a, .str x t)]) (ml : mg "len" = none)
    (c0 : x.cps[0]? = some c) (c1 : 0 < x.length) (c2 : x.length ≤ 100000) (M : L2.Mod K mg base) (kp : ∀ b o, base.get? b = some o → s.heap.get? b = some o) (hr : Room 1 A) :
    wpAny (model P w) A (call (.ref f) [.str x t]) (PySem.W.KeyPure (.tuple [.str ⟨#[c]⟩, .int (x.length : Int), .str x]) s) (fun _ _ => False) s := by
  have nG : s.heap.Ns mainGlobals mg := M.glob.keeps kp
  obtain ⟨mb, nb, hmb⟩ := M.blt
  have nB := nb.keeps kp
  refine wpAny_call (PySem.W.kla_callFunE hr.depth hf rfl hco hgn rfl hcd ?_)
  rw [hbind]
  refine wpAny_pure (wpAny_newFunctionEnv hcell (fun y hy => ?_) (fun h₁ hns hsb => ⟨(M.nolimit.keeps kp).fresh _ hsb, ?_⟩) hk)
  · rw [List.mem_singleton.mp hy]
    exact hloc
  have k1 : ∀ b o, s.heap.get? b = some o → h₁.get? b = some o := fun b o e => hsb.extBut b o (Nat.ne_of_lt (Heap.lt_size e)) (Heap.get?_push_of_some _ e)
  refine PySem.W.kla_codeExpr ?_
  have I1 : InCall s s.heap.objs.size (fun y => List.lookup y [(a, Value.str x t)].reverse) { s with heap := h₁, toks := s.toks + [(a, Value.str x t)].length } := ⟨⟨h₁, _, rfl⟩, hns, k1, Nat.le_refl _⟩
  generalize henv : newEnv _ s.heap.objs.size _ _ _ _ _ _ _ = env
  have e1 : env.locals = s.heap.objs.size := by rw [← henv]; rfl
  have e2 : env.scope = scope := by rw [← henv]; rfl
  have e3 : env.kindOf a = some .local := by rw [← henv]; exact hloc
  have e4 : env.kindOf ("len" : Str) = some .globalImplicit := by rw [← henv]; exact hlen
  have e5 : env.scope.kind = .function := by rw [e2]; exact hk
  have e6 : env.globals = mainGlobals := by rw [← henv]; rfl
  have e7 : env.builtins = builtinsNs := by rw [← henv]; rfl
  have va : ∀ {q : Pos} {E : Value → Shared → Prop}, PV P w (A.deeper env) E env s s.heap.objs.size (fun y => List.lookup y [(a, Value.str x t)].reverse) (.Name a q) (fun _ u => u = .str x t) :=
    fun {q E} => pv_name e1 e5 e3 (by simp) had
  refine thn (pv_tup3 (x1 := x1) (pos := p8) (ka := .str ⟨#[c]⟩) (kb := .int (x.length : Int)) (kc := .str x)
    ((pv_sub0 (j := j1) (p := p2) (pos := p3) (va (q := p1)) c0 c1).imp fun _ u he => .inl ⟨_, he.choose, rfl, he.choose_spec⟩)
    ((pv_len (p := p4) (pos := p6) e5 e4 (by rw [e6]; exact nG) ml (by rw [e7]; exact nB) ((hmb "len" (by decide)).trans boot_len) ((va (q := p5)).imp fun _ u he => ⟨t, he⟩) c2).imp
      fun _ u he => .inr ⟨_, he.choose, rfl, he.choose_spec⟩)
    ((va (q := p7)).imp fun _ u he => .inl ⟨x, t, rfl, he⟩) rfl rfl rfl _ I1) fun u s2 ⟨I2, r2, k2⟩ => ?_
  obtain ⟨h', tk, e, kp2⟩ := I2.done
  subst e
  exact ⟨h', tk, rfl, kp2, r2⟩
end
/-- the reading: the list, then a new list that is sorted by the lambda's key; the tables may grow -/
def tSortLam (K : PySem.W.Frag) (T : List (Addr × Str)) (cp : Str → Nat) (te : TE) : TE := fun σ H Q => te σ H fun v H1 => ∃ (a : Addr) (ss : List Str), v = .ref a ∧ SqL K H1 a (ss.map V.str) ∧ (∀ x ∈ ss, x.cps[0]? = some (cp x) ∧ 0 < x.length ∧ x.length ≤ 100000) ∧ Tabs T H1 ∧
  ∀ H2, ExtN H1 H2 → Tabs T H2 → ∀ p, H2 p = none → Q (.ref p) (upd H2 p (.lst ((ss.mergeSort (PySem.W.dataLe false (lamKey cp))).map V.str)))
theorem seq_extN {K : PySem.W.Frag} {H H' : Hp} {a : Addr} {xs : List V} (e : ExtN H H') (h : SqL K H a xs) : SqL K H' a xs := by
  rcases h with (h | ⟨o, h⟩) | h
  · exact .inl (.inl (e _ _ h fun ps z => by cases z))
  · exact .inl (.inr ⟨o, e _ _ h fun ps z => by cases z⟩)
  · exact .inr h
theorem pe_sortLam {X : Cx} {T : List (Addr × Str)} {c P : Addr} {cp : Str → Nat} {e : Expr} {te : TE} {params : Arguments} {scope : Scope} {a : Str} {p pos lpos kpos : Pos} {p1 p2 p3 p4 p5 p6 p7 p8 : Pos} {j1 x1 : Nat}
    (hg : Gl X "sorted") (hm : X.mg "sorted" = none) (he : PE X e te) (TB : TabB X.base X.mg c P) (hcode : X.env.code = .ref c) (hmT : (P, X.env.qual ++ "<lambda>") ∈ T) (hu : ∀ p ∈ T, p.1 = P → p.2 = X.env.qual ++ "<lambda>") (hdef : defaultsOf params X.env = ([], []))
    (hk : scope.kind = .function) (hco : scope.isCoroutine = false) (hgn : scope.isGenerator = false) (hloc : scope.names.lookup a = some .local) (hlen : scope.names.lookup ("len" : Str) = some .globalImplicit) (hcell : ∀ x ∈ scope.names, x.2 ≠ .cell) (hfree : ∀ x ∈ scope.names, x.2 ≠ .free)
    (hbind : ∀ (q : Str) (pm cv ctv u : Value), bindArgs (PySem.W.kla_fn "<lambda>" q params (lamBody a p1 p2 p3 p4 p5 p6 p7 p8 j1 x1) scope [] pm cv ctv) ⟨[u], []⟩ = pure [(a, u)]) (hclo : cloFrom X.env.cells scope.names [] = []) (ml : X.mg "len" = none) (hr : Room 3 X.A)
    (had : (a == ("__debug__" : Str)) = false := by decide) (hst : starEach [e] X.env = (false, eval e X.env) :: starEach [] X.env := by rfl)
    (hback : backTo pos (starEach [e] X.env) = (false, eval e X.env) :: backTo pos (starEach [] X.env) := by rfl) (hpl : (backTo pos (starEach [e] X.env)).any (·.1) = false := by rfl) :
    PE X (.Call (.Name "sorted" p) [e] [⟨some "key", .Lambda params (lamBody a p1 p2 p3 p4 p5 p6 p7 p8 j1 x1) scope lpos, kpos⟩] pos) (tSortLam X.K T cp te) := by
  refine ⟨fun pins s σ H Q I h => ?_⟩
  refine wpAny_Call_Name_kw (ld_blt I hg hm (by decide +kernel : bootBuiltins ("sorted" : Str) = some (.builtin "sorted")) ?_)
  refine PyProof.Rows.callWith_kw (args_cons (thn (he.run pins s σ H _ I h) fun v s1 ⟨y, H1, I1, r1, al, ss, ey, hs, hC, hT, q⟩ => args_nil ?_) hst) hback hpl rfl rfl
  subst ey
  obtain rfl : v = Value.ref al := r1
  show wpAny _ _ (evalAll [(do let v ← eval (.Lambda params (lamBody a p1 p2 p3 p4 p5 p6 p7 p8 j1 x1) scope lpos) X.env; standAt pos; pure v)]) _ _ s1
  refine wpAny_evalAll_cons (wpAny_bind (lam_make2 I1 TB hcode hmT hu hT hdef (fun y hy e => absurd e (hfree y hy)) fun f c' pm ctv H2 s2 I2 eN T2 hf hfn hfr hco' => wpAny_bind (wpAny_standAt (wpAny_pure (wpAny_evalAll_nil ?_)))))
  show wpAny _ _ (call (.builtin "sorted") [.ref al] [(Str.ofString "key", .ref f)]) _ _ s2
  rw [hclo] at hf
  obtain ⟨⟨oc, vs, tq, g1, g2, g3⟩, _, _⟩ := I2.hok c' _ hco'
  refine sorted_by_run (k := lamKey cp) I2 (seq_extN eN hs) (fun d hd d' hd' => ?_) (.inl fun d hd => ?_) (fun x hx => ?_) (fun x hx t h tk kp => ?_) (q H2 eN T2)
  · obtain ⟨x, hx, rfl⟩ := List.mem_map.mp hd
    obtain ⟨y, hy, rfl⟩ := List.mem_map.mp hd'
    rfl
  · obtain ⟨x, hx, rfl⟩ := List.mem_map.mp hd
    exact ⟨_, _, rfl⟩
  · have h1 := hr.un
    show X.A.units + 2 + 1 < cLine
    omega
  · obtain ⟨b0, b1, b2⟩ := hC x hx
    exact lam_key_call (kp _ _ hf) ⟨c', oc, vs, tq, rfl, kp _ _ g1, g2, g3⟩ hk hco hgn hloc hlen hcell had (hbind _ _ _ _ _) ml b0 b1 b2 I2.mod (fun b o e => kp b o (I2.bk b o e)) (hr.in1.in1)
end KLamS
-- KMaxD
/-! max(xs, default=d) of a list of whole numbers -/
namespace KMaxD
open PySem PySem.Spec PyProof.Rows L2
section
variable {pr : Program} {w : World} {A : Around} {R : Result → Shared → Prop} {J : Addr} {fp wr : List Addr} {n : Nat} {Pn : Nat → Value → Prop} {Sn : Nat → Heap → Prop} {dk : Str} {dv : Value}
def bestObj (l : Array Value) (c : Nat) : Obj := { cls := .type "list", dict := none, data := .seq l c, slots := #[] }
abbrev loopCode (J B : Addr) (dk : Str) (dv : Value) : Code := .builtin "max.loop" ⟨[.ref J, .none, .ref B], [(dk, dv)]⟩
theorem nm_eq : (toString "max" ++ toString ".loop" : String) = "max.loop" := by decide
/-- from a best one on -/
theorem loop_on (W : Walks pr w A.in1 J fp wr n Pn Sn) (bt : Nat → Nat → Bool) (cmp : CmpOf pr w A.in1 .Gt Pn bt) (B : Addr) (nB : B ∉ fp) : ∀ (k i : Nat) (s : Shared) (best : Value) (c : Nat), n = i + 1 + k → Sn (i + 1) s.heap → Pn (argBest bt i) best →
    s.heap.get? B = some (bestObj #[best, best] c) → (∀ v g tk, Pn (argBest bt (n - 1)) v → (∀ b o, b ∉ wr → b ≠ B → s.heap.get? b = some o → g.get? b = some o) → R (.ok (.ret v)) { s with heap := g, toks := tk }) → codeAny (model pr w) A (loopCode J B dk dv) R s
  | 0, i, s, best, c, hn, st, pb, ob, fin => by
    have nW : B ∉ wr := fun z => nB (W.sub _ z)
    refine codeAny_builtin F.entry_max_loop ?_
    rw [Around.under_plainId F.plain_max_loop _]
    show wpAny _ A.in1 (seqItems? (.ref B) >>= _) _ _ s
    refine wpAny_bind (wpAny_seqItems ob rfl ?_)
    show wpAny _ A.in1 (tryCatch (pyNext (.ref J)) _ >>= _) _ _ s
    have hi : i + 1 = n := by omega
    refine wpAny_bind (wpAny_tryCatch (W.done s _ _ (hi ▸ st) fun g tk kp => ?_))
    show wpAny _ A.in1 (updateSeq B (fun _ => #[]) >>= _) _ _ _
    refine wpAny_bind (wpAny_updateSeq (kp B _ nW ob) rfl (wpAny_bind (wpAny_letGo (wpAny_pure (fin best _ tk ?_ ?_)))))
    · rw [← hi]
      exact pb
    · exact fun b o h1 h2 e => (Heap.get?_update_other _ _ (Ne.symm h2)).trans (kp b o h1 e)
  | k + 1, i, s, best, c, hn, st, pb, ob, fin => by
    have nW : B ∉ wr := fun z => nB (W.sub _ z)
    refine codeAny_builtin F.entry_max_loop ?_
    rw [Around.under_plainId F.plain_max_loop _]
    show wpAny _ A.in1 (seqItems? (.ref B) >>= _) _ _ s
    refine wpAny_bind (wpAny_seqItems ob rfl ?_)
    show wpAny _ A.in1 (tryCatch (pyNext (.ref J)) _ >>= _) _ _ s
    refine wpAny_bind (wpAny_tryCatch (W.item (i + 1) s _ _ (by omega) st fun v g tk pv st1 kp => ?_))
    have ob1 := kp B _ nW ob
    show wpAny _ A.in1 (tryCatch (holding [v, v] (richCompare .Gt v best >>= _)) _ >>= _) _ _ _
    refine wpAny_bind (wpAny_tryCatch (wpAny_holding (wpAny_bind (cmp (i + 1) (argBest bt i) v best _ _ _ pv pb ?_))))
    refine wpAny_bind (wpAny_holding (wpAny_truthy_bool (wpAny_bind (wpAny_letGo (wpAny_pure ?_)))))
    cases hb : bt (i + 1) (argBest bt i) with
    | true =>
      simp only [if_true]
      refine wpAny_bind (wpAny_updateSeq ob1 rfl (wpAny_bind (wpAny_letGo ?_)))
      rw [nm_eq]
      refine wpAny_pure ⟨plainId_quiet F.plain_max_loop _, loop_on W bt cmp B nB k (i + 1) _ v _ (by omega) (W.frame _ _ _ st1 fun b hb' o e => ?_) (by simp only [argBest, hb, if_true]; exact pv) (Heap.get?_update_self _ ob1 rfl) fun v' g' tk' p' kp' => ?_⟩
      · exact (Heap.get?_update_other _ _ (fun z : B = b => nB (z ▸ hb'))).trans e
      · exact fin v' g' tk' p' fun b o h1 h2 e => kp' b o h1 h2 ((Heap.get?_update_other _ _ (Ne.symm h2)).trans (kp b o h1 e))
    | false =>
      simp only [Bool.false_eq_true, if_false]
      refine wpAny_bind (wpAny_letGo ?_)
      rw [nm_eq]
      refine wpAny_pure ⟨plainId_quiet F.plain_max_loop _, loop_on W bt cmp B nB k (i + 1) _ best c (by omega) st1 (by simp only [argBest, hb, Bool.false_eq_true, if_false]; exact pb) ob1 fun v' g' tk' p' kp' => ?_⟩
      exact fin v' g' tk' p' fun b o h1 h2 e => kp' b o h1 h2 (kp b o h1 e)
/-- the first turn: no item, the default; else on -/
theorem loop_first (W : Walks pr w A.in1 J fp wr n Pn Sn) (bt : Nat → Nat → Bool) (cmp : CmpOf pr w A.in1 .Gt Pn bt) (B : Addr) (nB : B ∉ fp) {s : Shared} {c : Nat} (st : Sn 0 s.heap) (ob : s.heap.get? B = some (bestObj #[] c))
    (fin : ∀ v g tk, (if n = 0 then v = dv else Pn (argBest bt (n - 1)) v) → (∀ b o, b ∉ wr → b ≠ B → s.heap.get? b = some o → g.get? b = some o) → R (.ok (.ret v)) { s with heap := g, toks := tk }) : codeAny (model pr w) A (loopCode J B dk dv) R s := by
  have nW : B ∉ wr := fun z => nB (W.sub _ z)
  refine codeAny_builtin F.entry_max_loop ?_
  rw [Around.under_plainId F.plain_max_loop _]
  show wpAny _ A.in1 (seqItems? (.ref B) >>= _) _ _ s
  refine wpAny_bind (wpAny_seqItems ob rfl ?_)
  show wpAny _ A.in1 (tryCatch (pyNext (.ref J)) _ >>= _) _ _ s
  by_cases h0 : n = 0
  · subst h0
    refine wpAny_bind (wpAny_tryCatch (W.done s _ _ st fun g tk kp => ?_))
    refine wpAny_bind (wpAny_rule (wpAny_pure ?_))
    exact fin dv g tk rfl fun b o h1 _ e => kp b o h1 e
  · refine wpAny_bind (wpAny_tryCatch (W.item 0 s _ _ (by omega) st fun v g tk pv st1 kp => ?_))
    have ob1 := kp B _ nW ob
    show wpAny _ A.in1 (updateSeq B (fun _ => #[v, v]) >>= _) _ _ _
    refine wpAny_bind (wpAny_updateSeq ob1 rfl ?_)
    rw [nm_eq]
    refine wpAny_pure ⟨plainId_quiet F.plain_max_loop _, loop_on W bt cmp B nB (n - 1) 0 _ v _ (by omega) (W.frame _ _ _ st1 fun b hb' o e => ?_) pv (Heap.get?_update_self _ ob1 rfl) fun v' g' tk' p' kp' => ?_⟩
    · exact (Heap.get?_update_other _ _ (fun z : B = b => nB (z ▸ hb'))).trans e
    · exact fin v' g' tk' (by rw [if_neg h0]; exact p') fun b o h1 h2 e => kp' b o h1 h2 ((Heap.get?_update_other _ _ (Ne.symm h2)).trans (kp b o h1 e))
end
section
variable {pr : Program} {w : World} {A : Around} {E : Value → Shared → Prop} {s : Shared}
theorem args_maxD (a v : Value) : argsOk "max" ⟨[a], [(Str.ofString "default", v)]⟩ := by unfold argsOk; kernel_rfl
theorem check_maxD (a v : Value) : checkBuiltinCall "max" ⟨[a], [(Str.ofString "default", v)]⟩ = pure () := by
  have h := args_maxD a v
  simp only [checkBuiltinCall, F.kind_max]
  cases e : Manifest.signature? "max" with
  | none => rfl
  | some sg =>
    simp only [argsOk, e] at h
    exact h
theorem call_maxD {l : Addr} {xs : Array (Int × Tok)} {dv : Value} {Q : Value → Shared → Prop} (hh : A.handled = none) (hl : s.heap.IsList l (intItems xs))
    (h : ∀ v g tk, (if xs.size = 0 then v = dv else (intItems xs)[argBest (fun i j => decide (numAt xs i > numAt xs j)) (xs.size - 1)]? = some v) → (∀ b o, s.heap.get? b = some o → g.get? b = some o) → Q v { s with heap := g, toks := tk }) :
    wpAny (model pr w) A (call (.builtin "max") [.ref l] [(Str.ofString "default", dv)]) Q E s := by
  refine wpAny_call (codeAny_call_builtin F.plain_max F.entry_max ?_)
  rw [check_maxD]
  refine wpAny_pure ?_
  show wpAny _ A.in1 (Builtin.Builtins.bindParams "max" ["key", "default"] 0 ⟨[], [(Str.ofString "default", dv)]⟩ >>= _) _ _ s
  refine wpAny_bind (wpAny_of_eq (show Builtin.Builtins.bindParams "max" ["key", "default"] 0 ⟨[], [(Str.ofString "default", dv)]⟩ = pure [none, some dv] from rfl) ?_)
  refine wpAny_bind (wpAny_pure ?_)
  refine wpAny_bind (iter_intList hl fun s2 e st hfp hlI => ?_)
  subst e
  refine wpAny_bind (wpAny_newObj_type ?_)
  have nB : (s.heap.push { cls := .type "list_iterator", data := .fields #[.ref l, .int 0 0] }).objs.size ∉ [s.heap.objs.size, l] := fun hm => Nat.lt_irrefl _ (hfp _ hm)
  have W := Walks.list (prog := pr) (w := w) (A := A.in1) hh s.heap.objs.size l hlI (intItems xs)
  rw [nm_eq]
  refine wpAny_pure ⟨plainId_quiet F.plain_max_loop _, loop_first W _ (CmpOf.ints_gt (numAt xs) (fun _ _ => intItems_at)) _ nB (W.frame _ _ _ st fun b _ o e => Heap.get?_push_of_some _ e) (Heap.get?_push_size _ rfl) fun v g tk hv kp => ?_⟩
  have hsz : (intItems xs).size = xs.size := by simp [intItems]
  rw [hsz] at hv
  exact h v g tk hv fun b o e => kp b o (fun hm => by
    rcases List.mem_cons.mp hm with z | z
    · exact absurd (z ▸ Heap.lt_size e) (Nat.lt_irrefl _)
    · cases z) (Nat.ne_of_lt (Heap.lt_size (Heap.get?_push_of_some _ e))) (Heap.get?_push_of_some _ (Heap.get?_push_of_some _ e))
end
/-- the greatest of these, d if there are none -/
def maxD (d : Int) : List Int → Int
  | [] => d
  | x :: r => r.foldl max x
theorem foldl_max_ge : ∀ (r : List Int) (x : Int), x ≤ r.foldl max x
  | [], x => Int.le_refl x
  | y :: r, x => Int.le_trans (Int.le_max_left x y) (foldl_max_ge r (max x y))
theorem foldl_max_all : ∀ (r : List Int) (x y : Int), y ∈ r → y ≤ r.foldl max x
  | z :: r, x, y, h => by
    rcases List.mem_cons.mp h with e | h
    · subst e
      exact Int.le_trans (Int.le_max_right x y) (foldl_max_ge r (max x y))
    · exact foldl_max_all r (max x z) y h
theorem foldl_max_mem : ∀ (r : List Int) (x : Int), r.foldl max x = x ∨ r.foldl max x ∈ r
  | [], x => .inl rfl
  | y :: r, x => by
    rcases foldl_max_mem r (max x y) with e | e
    · show List.foldl max (max x y) r = x ∨ List.foldl max (max x y) r ∈ y :: r
      rw [e]
      by_cases h : x ≤ y
      · exact .inr (List.mem_cons.mpr (.inl (Int.max_eq_right h)))
      · exact .inl (Int.max_eq_left (by omega))
    · exact .inr (List.mem_cons.mpr (.inr e))
theorem maxD_eq {d : Int} {ns : List Int} {m : Int} (h : ns ≠ []) (hm : m ∈ ns) (hg : ∀ y ∈ ns, y ≤ m) : maxD d ns = m := by
  cases ns with
  | nil => exact absurd rfl h
  | cons x r =>
    have h1 : m ≤ maxD d (x :: r) := by
      rcases List.mem_cons.mp hm with e | e
      · rw [e]
        exact foldl_max_ge r x
      · exact foldl_max_all r x m e
    have h2 : maxD d (x :: r) ≤ m := by
      rcases foldl_max_mem r x with e | e
      · show List.foldl max x r ≤ m
        rw [e]
        exact hg x List.mem_cons_self
      · exact hg _ (List.mem_cons.mpr (.inr e))
    omega
def rMaxDef (K : PySem.W.Frag) : List V → List V → Hp → VK → Prop := fun vs zs H Q => ∃ (a : Addr) (ns : List Int) (d : Int), vs = [.ref a] ∧ zs = [.int d] ∧ SqL K H a (ns.map V.int) ∧ Q (.int (maxD d ns)) H
theorem cr_maxDef {X : Cx} (hc : X.calm = true) : CallRK X (.builtin "max") [Str.ofString "default"] (rMaxDef X.K) := by
  intro pins s σ H vs zs us ws Q I r rz h
  obtain ⟨a, ns, d, rfl, rfl, hs, q⟩ := h
  obtain rfl := Vals.ref1 r
  obtain ⟨w1, rfl, t0, e1⟩ := vals1 rz
  subst e1
  obtain ⟨its, rv, hl, hz⟩ := I.list hs
  obtain ⟨xs, e⟩ := rv.ints.allInts.items
  have hn : numsOf (intItems xs).toList = ns := by
    rw [← e]
    exact rv.ints.numsOf
  rw [nums_intItems] at hn
  have hl' := hl.isList
  rw [e] at hl'
  refine call_maxD (I.ok.hd hc) hl' fun v g tk hv kp => ?_
  by_cases h0 : xs.size = 0
  · rw [if_pos h0] at hv
    have e0 : ns = [] := by
      rw [← hn]
      exact List.eq_nil_of_length_eq_zero (by rw [List.length_map, Array.length_toList]; exact h0)
    subst hv
    subst e0
    exact ⟨.int d, H, I.kept kp, ⟨t0, rfl⟩, q⟩
  · rw [if_neg h0] at hv
    obtain ⟨t, rfl⟩ := intItems_at hv
    obtain ⟨h1, h2⟩ := argBest_gt (numAt xs) (xs.size - 1)
    refine ⟨.int (maxD d ns), H, I.kept kp, ⟨t, ?_⟩, q⟩
    rw [maxD_eq (m := numAt xs (argBest (fun i j => decide (numAt xs i > numAt xs j)) (xs.size - 1)))]
    · intro z
      rw [← hn] at z
      have := congrArg List.length z
      rw [List.length_map, Array.length_toList] at this
      exact h0 this
    · rw [← hn, numAt_eq]
      exact PySem.getD_mem (by rw [List.length_map, Array.length_toList]; omega)
    · intro y hy
      rw [← hn] at hy
      obtain ⟨j, hj, rfl⟩ := mem_getD hy
      rw [List.length_map, Array.length_toList] at hj
      rw [← numAt_eq]
      exact h2 j (by omega)
end KMaxD
-- KEv
/-! more values: texts, chains, dicts, in the manner of Evl -/
namespace KEv
open PySem PySem.Spec PyProof.Rows L2 Evl
section
variable {K : PySem.W.Frag} {σ : L2.St} {H H' : Hp} {ta tb tc te : TE} {t u : TT} {x y z v : V} {r r' : R2}
/-! names for readings -/
def rIsS : R2 := fun x y H Q => ∃ (c : Nat) (z : Str), x = .str ⟨#[c]⟩ ∧ y = .str z ∧ Q (.bl (decide (c ∈ z.cps.toList))) H
def rNiS : R2 := fun x y H Q => ∃ (c : Nat) (z : Str), x = .str ⟨#[c]⟩ ∧ y = .str z ∧ Q (.bl (!decide (c ∈ z.cps.toList))) H
theorem op_isS {X : Cx} : OpR X (compareOp .In) rIsS := op_in_sign
theorem op_niS {X : Cx} : OpR X (compareOp .NotIn) rNiS := op_notIn_sign
theorem rv_isS {c : Nat} {w : Str} : RV rIsS (.str ⟨#[c]⟩) (.str w) H (.bl (decide (c ∈ w.cps.toList))) := fun H1 _ _ q => ⟨c, w, rfl, rfl, q H1 (Ex.refl H1)⟩
theorem rv_niS {c : Nat} {w : Str} : RV rNiS (.str ⟨#[c]⟩) (.str w) H (.bl (!decide (c ∈ w.cps.toList))) := fun H1 _ _ q => ⟨c, w, rfl, rfl, q H1 (Ex.refl H1)⟩
def rAddS : R2 := fun x y H Q => ∃ i j, x = .str i ∧ y = .str j ∧ i.length + j.length ≤ sizeLine ∧ Q (.str (i ++ j)) H
theorem op_addS {X : Cx} : OpR X (binaryOp .Add) rAddS := op_add_str
theorem rv_addS {a b : Str} (h : a.length + b.length ≤ 1000000) : RV rAddS (.str a) (.str b) H (.str (a ++ b)) := fun H1 _ _ q => ⟨a, b, rfl, rfl, Nat.le_trans h (by decide), q H1 (Ex.refl H1)⟩
/-- n copies -/
def repS (a : Str) (n : Nat) : Str := ⟨(List.replicate n a.cps.toList).flatten.toArray⟩
/-- len of a text -/
def rLenT : List V → Hp → VK → Prop := fun xs H Q => ∃ z : Str, xs = [.str z] ∧ z.length ≤ sizeLine ∧ Q (.int z.length) H
theorem call_lenT {X : Cx} : CallR X (.builtin "len") rLenT := call_len_str
theorem ev_lenT {a : Str} (ha : Ev ta σ H (.str a)) (h : a.length ≤ 1000000) : Ev (tCB rLenT (tCons ta tNil)) σ H (.int (a.length : Int)) := fun H1 e Q q =>
  ha H1 e _ fun H2 e2 => ⟨a, rfl, Nat.le_trans h (by decide), q H2 e2⟩
/-- a text's slice -/
theorem ev_slS {tl th : TO} {w : Str} {lo hi : Option Int} (h : Ev te σ H (.str w)) (h1 : EvO tl σ H lo) (h2 : EvO th σ H hi) (hz : w.length ≤ 1000000) : Ev (tSl rSlS te tl th) σ H (.str (cutS w lo hi)) := fun H1 e _ q =>
  h H1 e _ fun H2 e2 => h1 H2 (e.trans e2) _ fun H3 e3 => h2 H3 ((e.trans e2).trans e3) _ fun H4 e4 => ⟨w, rfl, Nat.le_trans hz (by decide), q H4 ((e2.trans e3).trans e4)⟩
/-- a op b op' c -/
theorem ev_chain {b1 b2 : Bool} (ha : Ev ta σ H x) (hb : Ev tb σ H y) (hr : RV r x y H (.bl b1)) (hc : b1 = true → Ev tc σ H z) (hr' : b1 = true → RV r' y z H (.bl b2)) : Ev (tChain r r' ta tb tc) σ H (.bl (b1 && b2)) := fun H1 e Q q =>
  ha H1 e _ fun H2 e2 => hb H2 (e.trans e2) _ fun H3 e3 => hr H3 ((e.trans e2).trans e3) _ fun H4 e4 => ⟨b1, rfl, by
    cases b1 with
    | true =>
      show tc σ H4 _
      refine hc rfl H4 (((e.trans e2).trans e3).trans e4) _ fun H5 e5 => hr' rfl H5 ((((e.trans e2).trans e3).trans e4).trans e5) Q fun H6 e6 => ?_
      exact q H6 ((((e2.trans e3).trans e4).trans e5).trans e6)
    | false =>
      show Q (.bl false) H4
      exact q H4 ((e2.trans e3).trans e4)⟩
theorem et_chain {b1 b2 : Bool} (ha : Ev ta σ H x) (hb : Ev tb σ H y) (hr : RV r x y H (.bl b1)) (hc : b1 = true → Ev tc σ H z) (hr' : b1 = true → RV r' y z H (.bl b2)) : EvT (tTest (tChain r r' ta tb tc)) σ H (b1 && b2) :=
  et_test (ev_chain ha hb hr hc hr')
/-- int(i), int(b) -/
def rInt1 : List V → Hp → VK → Prop := fun xs H Q => (∃ i, xs = [.int i] ∧ Q (.int i) H) ∨ ∃ k, xs = [.bl k] ∧ Q (.int (if k then 1 else 0)) H
theorem call_intI {X : Cx} : CallR X (.type "int") rInt1 := call_int1
theorem rc_intI {i : Int} : RC rInt1 [.int i] H (.int i) := fun H1 _ _ q => .inl ⟨i, rfl, q H1 (Ex.refl H1)⟩
theorem rc_intB {k : Bool} : RC rInt1 [.bl k] H (.int (if k then 1 else 0)) := fun H1 _ _ q => .inr ⟨k, rfl, q H1 (Ex.refl H1)⟩
def rIntT : List V → Hp → VK → Prop := fun xs H Q => ∃ a n, xs = [.str a] ∧ PySem.intText? a = some n ∧ a.length ≤ 640 ∧ Q (.int n) H
theorem call_intT {X : Cx} : CallR X (.type "int") rIntT := call_int_str
theorem rc_intT {a : Str} {n : Int} (h : PySem.intText? a = some n) (hl : a.length ≤ 640) : RC rIntT [.str a] H (.int n) := fun H1 _ _ q => ⟨a, n, rfl, h, hl, q H1 (Ex.refl H1)⟩
def rAbs1 : List V → Hp → VK → Prop := fun xs H Q => ∃ i, xs = [.int i] ∧ Q (.int (if i < 0 then -i else i)) H
theorem call_absI {X : Cx} : CallR X (.builtin "abs") rAbs1 := call_abs
theorem rc_abs {i : Int} : RC rAbs1 [.int i] H (.int (if i < 0 then -i else i)) := fun H1 _ _ q => ⟨i, rfl, q H1 (Ex.refl H1)⟩
def rStrI : List V → Hp → VK → Prop := fun xs H Q => ∃ i : Int, xs = [.int i] ∧ i.natAbs.log2 < 1920 ∧ Q (.str (toString i)) H
theorem call_strI {X : Cx} : CallR X (.type "str") rStrI := call_str_int
theorem rc_strI {i : Int} (h : i.natAbs < 2 ^ 64) : RC rStrI [.int i] H (.str (toString i)) := fun H1 _ _ q => ⟨i, rfl, by
  by_cases h0 : i.natAbs = 0
  · rw [h0]
    decide
  · have := (Nat.log2_lt h0).mpr h
    omega, q H1 (Ex.refl H1)⟩
theorem rc_sum {a : Addr} {ns : List Int} (h : SqL K H a (ns.map V.int)) : RC (rSum K) [.ref a] H (.int ns.sum) := fun H1 e _ q => ⟨a, ns, rfl, ex_l e h, q H1 (Ex.refl H1)⟩
/-! statements over a text's signs -/
variable {D : Ends} {tu tz : TS}
theorem for_str {x : Str} {g : TG} {tb : TS} {σ : L2.St} {H : Hp} {D : Ends} (Pv : Nat → L2.St → Hp → Prop) (h0 : Pv 0 σ H) (hs : ∀ i c σ' H', x.cps[i]? = some c → Pv i σ' H' → g (.str ⟨#[c]⟩) σ' H' fun σ2 H2 => tb { D with nx := Pv (i + 1), ct := Pv (i + 1), bk := D.nx } σ2 H2)
    (hd : ∀ σ' H', Pv x.cps.size σ' H' → D.nx σ' H') : ∃ W : Nat → Nat → L2.St → Hp → Prop, (∃ m, W 0 m σ H) ∧ ∀ i m σ H, W i m σ H →
      ((Its x).stop i H ∧ D.nx σ H) ∨ ((Its x).go i H ∧ ∃ N : L2.St → Hp → Prop, (∀ σ' H', N σ' H' → ∃ m', m' < m ∧ W (i + 1) m' σ' H') ∧ ∀ y H', (Its x).yld i H y H' → g y σ H' fun σ2 H2 => tb { D with nx := N, ct := N, bk := D.nx } σ2 H2) := by
  refine ⟨fun i m σ' H' => i + m = x.cps.size ∧ Pv i σ' H', ⟨x.cps.size, Nat.zero_add _, h0⟩, fun i m σ' H' ⟨em, p⟩ => ?_⟩
  by_cases hi : i < x.cps.size
  · refine .inr ⟨hi, Pv (i + 1), fun σ2 H2 p2 => ⟨m - 1, by omega, by omega, p2⟩, fun y H2 hy => ?_⟩
    obtain ⟨rfl, c, hc, rfl⟩ := hy
    exact hs i c σ' _ hc p
  · have e : i = x.cps.size := by omega
    subst e
    exact .inl ⟨Nat.le_refl _, hd σ' H' p⟩
theorem q_forS {x : Str} {g : TG} {tl : TE} (h : Ev tl σ H (.str x)) (Pv : Nat → L2.St → Hp → Prop) (h0 : ∀ H1, Ex H H1 → Pv 0 σ H1) (hs : ∀ i c σ' H', x.cps[i]? = some c → Pv i σ' H' → g (.str ⟨#[c]⟩) σ' H' fun σ2 H2 => tu { D with nx := Pv (i + 1), ct := Pv (i + 1), bk := tz D } σ2 H2)
    (hd : ∀ σ' H', Pv x.cps.size σ' H' → tz D σ' H') : tSeq (tFor (iStr tl) g tu) tz D σ H := h H (Ex.refl H) _ fun H1 e => ⟨x, rfl, for_str (D := { D with nx := tz D }) Pv (h0 H1 e) hs hd⟩
end
end KEv
-- E1
namespace K01
open PySem PySem.Spec PyProof.Rows L2 Evl KEv TL
def topS (i : Nat) : Stmt := PySem.Challenge.pw_rulesonrules_k01_signatures_made_or_refu.main.body.getD i (.Pass ⟨0, 0, 0, 0⟩)
theorem relS {x : Str} {t : Tok} : RelV (.str x) (.str x t) := ⟨t, rfl⟩
/-- a def of the text as it stands: its body, its name, how it binds -/
structure DefAt (K : PySem.W.Frag) (mg : Str → Option Value) (i : Nat) (x : Str) (ps : List Str) (f : Addr) (fd : FuncData) : Prop where
  F : Fun K x x (topS i) f fd
  g : mg x = some (.ref f)
  b : Binds K fd ps []
def small : Str := "abcdefghijklmnopqrstuvwxyz"
def capitals : Str := "ABCDEFGHIJKLMNOPQRSTUVWXYZ"
def digits : Str := "0123456789"
/-- the module's names that the defs read -/
structure Nm (mg : Str → Option Value) : Prop where
  len : mg "len" = none
  SMALL : ∃ t, mg "SMALL" = some (.str small t)
  DIGITS : ∃ t, mg "DIGITS" = some (.str digits t)
  CAPITALS : ∃ t, mg "CAPITALS" = some (.str capitals t)
section
variable {P : Program} {w : World} {K : PySem.W.Frag} {mg : Str → Option Value} {base : Heap}
/-! is_name -/
/-- the first one is among these -/
def headIn (s : List Nat) : List Nat → Bool
  | [] => false
  | c :: _ => decide (c ∈ s)
def nameB (l : List Nat) : Bool := decide (1 ≤ l.length) && decide (l.length ≤ 24) && headIn (tl small) l && l.all fun c => decide (c ∈ tl small) || decide (c ∈ tl digits)
def spIsName : Sp := fun vs H Q _ => ∃ x : Str, vs = [.str x] ∧ x.length ≤ 100000 ∧ RetV (.bl (nameB (tl x))) H Q
theorem tl_ix {x : Str} {i : Nat} {c : Nat} (h : x.cps[i]? = some c) : (tl x)[i]? = some c := by
  rw [← h]
  exact Array.getElem?_toList
theorem tl_size (x : Str) : x.cps.size = (tl x).length := by simp [tl]
theorem all_take {p : Nat → Bool} {l : List Nat} {i c : Nat} (h : l[i]? = some c) : (l.take (i + 1)).all p = ((l.take i).all p && p c) := by
  rw [List.take_add_one, h, List.all_append]
  simp
theorem all_not {p : Nat → Bool} {l : List Nat} {i c : Nat} (h : l[i]? = some c) (hp : p c = false) : l.all p = false := by
  apply Bool.eq_false_iff.mpr
  intro z
  rw [List.all_eq_true] at z
  rw [z c (List.mem_of_getElem? h)] at hp
  cases hp
theorem scIsName : FnScope ["text", "sign"] ["text"] (defScope (topS 12)) := ⟨rfl, rfl, rfl, by decide +kernel, rfl, by decide +kernel, by decide +kernel⟩
theorem ok_is_name {f : Addr} {fd : FuncData} (D : DefAt K mg 12 "is_name" ["text"] f fd) (N : Nm mg) : FnOk P w K mg base CX0 1 f fd ["text"] spIsName := by
  obtain ⟨t1, gS⟩ := N.SMALL
  obtain ⟨t2, gD⟩ := N.DIGITS
  refine D.F.ok scIsName (fun vs H Q E h => ?_) (fun cdv A outer s H vs Q E hr h => ?_)
  · obtain ⟨x, rfl, _⟩ := h
    rfl
  · obtain ⟨x, rfl, hl, k⟩ := h
    refine ⟨_, pss_cons (ps_if (PW.pt (pw_or (pt_not (pt_chain op_le op_le pe_int (pe_callB call_lenT (by rfl) N.len PySem.boot_len (pa_cons (pv 0) pa_nil)) pe_int))
        (pw_or1 (pt_cmpR op_niS (pe_ix ix_str (pv 0) pe_int (fun _ _ => rfl)) (pe_glob rfl gS relS) rfl)))) (pss_one (ps_ret pe_bl)) pss_nil)
      (pss_cons (ps_for PassesOwn.never rfl (pi_str (pv 0)) (pg_name (i := 1) scIsName.nd rfl (.inl rfl))
        (pss_one (ps_if (PW.pt (pw_and (pt_cmpR op_niS (pv 1) (pe_glob rfl gS relS) rfl) (pw_and1 (pt_cmpR op_niS (pv 1) (pe_glob rfl gD relS) rfl)))) (pss_one (ps_ret pe_bl)) pss_nil)))
      (pss_one (ps_ret pe_bl))), ?_⟩
    have el : (x.length : Int) = ((tl x).length : Int) := by rw [len_tl]
    -- if not 1 <= len(text) <= 24 or text[0] not in SMALL
    refine q_when (b := !(decide (1 ≤ (tl x).length) && decide ((tl x).length ≤ 24) && headIn (tl small) (tl x))) ?_ (fun hb H1 e1 => ?_) (fun hb H1 e1 => ?_)
    · refine et_is (et_or (et_not (et_chain ev_c (ev_lenT (a := x) (ev_var rfl) (by omega)) rv_I0 (fun _ => ev_c) (fun _ => rv_I0))) (b := !headIn (tl small) (tl x)) (fun h1 => ?_)) ?_
      · rw [Bool.not_eq_false', Bool.and_eq_true, decide_eq_true_eq] at h1
        cases ex : tl x with
        | nil =>
          rw [el, ex] at h1
          exact absurd h1.1 (by decide)
        | cons c r => exact et_test (ev_op (ev_op (ev_var rfl) ev_c (rv_ixS hl (c := c) (by rw [show x.cps.toList = c :: r from ex]; exact atI_nat (j := 0) rfl))) ev_c rv_niS)
      · rw [el]
        have h1 : decide ((1 : Int) ≤ ((tl x).length : Int)) = decide (1 ≤ (tl x).length) := decide_eq_decide.mpr (by omega)
        have h2 : decide (((tl x).length : Int) ≤ 24) = decide ((tl x).length ≤ 24) := decide_eq_decide.mpr (by omega)
        rw [h1, h2]
        cases decide (1 ≤ (tl x).length) <;> cases decide ((tl x).length ≤ 24) <;> rfl
    · refine s_ret ev_c fun H2 e2 => ?_
      have hn : nameB (tl x) = false := by
        unfold nameB
        rw [Bool.not_eq_true'] at hb
        rw [hb]
        rfl
      rw [hn] at k
      exact k H2 (e1.trans e2)
    · rw [Bool.not_eq_false'] at hb
      refine q_forS (x := x) (ev_var rfl) (fun i σ H2 => (∃ y, σ = [some (.str x), y]) ∧ Ex H H2 ∧ ((tl x).take i).all (fun c => decide (c ∈ tl small) || decide (c ∈ tl digits)) = true) (fun H2 e2 => ⟨⟨_, rfl⟩, e1.trans e2, rfl⟩) (fun i c σ H2 hc p => ?_) (fun σ H2 p => ?_)
      · obtain ⟨⟨y, rfl⟩, e2, ha⟩ := p
        have hc' := tl_ix hc
        refine s_when (b := !decide (c ∈ tl small) && !decide (c ∈ tl digits)) (et_and (et_test (ev_op (ev_var rfl) ev_c rv_niS)) fun _ => et_test (ev_op (ev_var rfl) ev_c rv_niS)) (fun h1 H3 e3 => ?_) (fun h1 H3 e3 => ?_)
        · refine s_ret ev_c fun H4 e4 => ?_
          have hn : nameB (tl x) = false := by
            unfold nameB
            rw [all_not hc' (by cases h5 : decide (c ∈ tl small) <;> cases h6 : decide (c ∈ tl digits) <;> simp_all), Bool.and_false]
          rw [hn] at k
          exact k H4 ((e2.trans e3).trans e4)
        · refine ⟨⟨_, rfl⟩, e2.trans e3, ?_⟩
          rw [all_take hc', ha]
          cases h5 : decide (c ∈ tl small) <;> cases h6 : decide (c ∈ tl digits) <;> simp_all
      · obtain ⟨⟨y, rfl⟩, e2, ha⟩ := p
        refine s_ret ev_c fun H4 e4 => ?_
        have hn : nameB (tl x) = true := by
          unfold nameB
          rw [tl_size, List.take_length] at ha
          rw [hb, ha]
          rfl
        rw [hn] at k
        exact k H4 (e2.trans e4)
end
end K01
-- E2
namespace K01
open PySem PySem.Spec PyProof.Rows L2 Evl KEv TL
section
variable {P : Program} {w : World} {K : PySem.W.Frag} {mg : Str → Option Value} {base : Heap}
/-! is_letter -/
theorem tl_cut1 (x : Str) : tl (cutS x (some 1) none) = (tl x).drop 1 := by
  show (List.take (HT.sIx x.length x.length none - HT.sIx x.length 0 (some 1)) (List.drop (HT.sIx x.length 0 (some 1)) x.cps.toList)).toArray.toList = _
  rw [List.toList_toArray, show HT.sIx x.length 0 (some 1) = min 1 x.length from HT.sIx_nat x.length 0 1, HT.sIx_none]
  have e : x.length = x.cps.toList.length := by simp [Str.length]
  show List.take _ (List.drop (min 1 x.length) (tl x)) = _
  cases h : tl x with
  | nil => simp
  | cons c r =>
    have e2 : x.length = r.length + 1 := by rw [len_tl, h]; rfl
    rw [e2, show min 1 (r.length + 1) = 1 by omega]
    exact List.take_of_length_le (by simp)
/-- the second sign is this one -/
def secondIs (c : Nat) : List Nat → Bool
  | _ :: d :: _ => decide (d = c)
  | _ => false
def letterB (l : List Nat) (n : Int) : Bool := decide (2 ≤ l.length) && decide ((l.length : Int) ≤ n + 1) && headIn (tl capitals) l && !(secondIs 48 l && decide (2 < l.length)) && (l.drop 1).all fun c => decide (c ∈ tl digits)
def spIsLetter : Sp := fun vs H Q _ => ∃ (x : Str) (n : Int), vs = [.str x, .int n] ∧ x.length ≤ 100000 ∧ RetV (.bl (letterB (tl x) n)) H Q
theorem scIsLetter : FnScope ["text", "digits", "digit"] ["text", "digits"] (defScope (topS 13)) := ⟨rfl, rfl, rfl, by decide +kernel, rfl, by decide +kernel, by decide +kernel⟩
theorem zero_eq {c : Nat} : decide (V.str ⟨#[c]⟩ = V.str "0") = decide (c = 48) := by
  apply decide_eq_decide.mpr
  constructor
  · intro h
    have h2 := congrArg tl (V.str.inj h)
    have h3 : [c] = [48] := h2
    exact List.head_eq_of_cons_eq h3
  · intro h
    rw [h]
    rfl
theorem ok_is_letter {f : Addr} {fd : FuncData} (F : FunD K "is_letter" "is_letter" (defArgs (topS 13)) (defBody (topS 13)) (defScope (topS 13)) [.int 9] [] f fd) (N : Nm mg) : FnOk P w K mg base CX0 1 f fd ["text", "digits"] spIsLetter := by
  obtain ⟨t1, gC⟩ := N.CAPITALS
  obtain ⟨t2, gD⟩ := N.DIGITS
  refine F.ok scIsLetter (fun vs H Q E h => ?_) (fun cdv A outer s H vs Q E hr h => ?_)
  · obtain ⟨x, n, rfl, _⟩ := h
    rfl
  · obtain ⟨x, n, rfl, hl, k⟩ := h
    refine ⟨_, PSs.nox (pss_cons (ps_if (PW.pt (pw_or (pt_not (pt_chain op_le op_le pe_int (pe_callB call_lenT (by rfl) N.len PySem.boot_len (pa_cons (pv 0) pa_nil)) (pe_op op_add (pv 1) pe_int)))
        (pw_or1 (pt_cmpR op_niS (pe_ix ix_str (pv 0) pe_int (fun _ _ => rfl)) (pe_glob rfl gC relS) rfl)))) (pss_one (ps_ret pe_bl)) pss_nil)
      (pss_cons (ps_if (PW.pt (pw_and (pt_cmpR op_eq (pe_ix ix_str (pv 0) pe_int (fun _ _ => rfl)) pe_str (nomark _)) (pw_and1 (pt_cmpR op_gt (pe_callB call_lenT (by rfl) N.len PySem.boot_len (pa_cons (pv 0) pa_nil)) pe_int (nomark _))))) (pss_one (ps_ret pe_bl)) pss_nil)
      (pss_cons (ps_for PassesOwn.never rfl (pi_str (pe_slice sl_str (pv 0) (po_some pe_int) po_none)) (pg_name (i := 2) scIsLetter.nd rfl (.inl rfl))
        (pss_one (ps_if (pt_cmpR op_niS (pv 2) (pe_glob rfl gD relS) rfl) (pss_one (ps_ret pe_bl)) pss_nil)))
      (pss_one (ps_ret pe_bl))))), ?_⟩
    have el : (x.length : Int) = ((tl x).length : Int) := by rw [len_tl]
    refine q_when (b := !(decide (2 ≤ (tl x).length) && decide (((tl x).length : Int) ≤ n + 1) && headIn (tl capitals) (tl x))) ?_ (fun hb H1 e1 => ?_) (fun hb H1 e1 => ?_)
    · refine et_is (et_or (et_not (et_chain ev_c (ev_lenT (a := x) (ev_var rfl) (by omega)) rv_I0 (fun _ => ev_op (ev_var rfl) ev_c rv_I0) (fun _ => rv_I0))) (b := !headIn (tl capitals) (tl x)) (fun h1 => ?_)) ?_
      · rw [Bool.not_eq_false', Bool.and_eq_true, decide_eq_true_eq] at h1
        cases ex : tl x with
        | nil =>
          rw [el, ex] at h1
          exact absurd h1.1 (by decide)
        | cons c r => exact et_test (ev_op (ev_op (ev_var rfl) ev_c (rv_ixS hl (c := c) (by rw [show x.cps.toList = c :: r from ex]; exact atI_nat (j := 0) rfl))) ev_c rv_niS)
      · rw [el]
        have h1 : decide ((2 : Int) ≤ ((tl x).length : Int)) = decide (2 ≤ (tl x).length) := decide_eq_decide.mpr (by omega)
        rw [h1]
        cases decide (2 ≤ (tl x).length) <;> cases decide (((tl x).length : Int) ≤ n + 1) <;> rfl
    · refine s_ret ev_c fun H2 e2 => ?_
      have hn : letterB (tl x) n = false := by
        unfold letterB
        rw [Bool.not_eq_true'] at hb
        rw [hb]
        rfl
      rw [hn] at k
      exact k H2 (e1.trans e2)
    · rw [Bool.not_eq_false'] at hb
      have h2 : 2 ≤ (tl x).length := by
        rw [Bool.and_eq_true, Bool.and_eq_true, decide_eq_true_eq] at hb
        exact hb.1.1
      obtain ⟨c, d, r, ex⟩ : ∃ c d r, tl x = c :: d :: r := by
        cases ex : tl x with
        | nil => rw [ex] at h2; simp at h2
        | cons c r =>
          cases r with
          | nil => rw [ex] at h2; simp at h2
          | cons d r => exact ⟨c, d, r, rfl⟩
      refine q_when (b := secondIs 48 (tl x) && decide (2 < (tl x).length)) ?_ (fun hb2 H2 e2 => ?_) (fun hb2 H2 e2 => ?_)
      · refine et_is (et_and (et_test (ev_op (ev_op (ev_var rfl) ev_c (rv_ixS hl (c := d) (by rw [show x.cps.toList = c :: d :: r from ex]; exact atI_nat (j := 1) rfl))) ev_c (rv_eq rfl))) fun _ => et_test (ev_op (ev_lenT (a := x) (ev_var rfl) (by omega)) ev_c rv_I0)) ?_
        rw [zero_eq, el, ex]
        have h3 : decide ((2 : Int) < ((c :: d :: r).length : Int)) = decide (2 < (c :: d :: r).length) := decide_eq_decide.mpr (by omega)
        rw [h3]
        rfl
      · refine s_ret ev_c fun H3 e3 => ?_
        have hn : letterB (tl x) n = false := by
          unfold letterB
          rw [hb2, Bool.not_true, Bool.and_false, Bool.false_and]
        rw [hn] at k
        exact k H3 ((e1.trans e2).trans e3)
      · refine q_forS (x := cutS x (some 1) none) (ev_slS (ev_var rfl) (eo_some ev_c) eo_none (by omega)) (fun i σ H2 => (∃ y, σ = [some (.str x), some (.int n), y]) ∧ Ex H H2 ∧ (((tl x).drop 1).take i).all (fun c => decide (c ∈ tl digits)) = true) (fun H3 e3 => ⟨⟨_, rfl⟩, (e1.trans e2).trans e3, rfl⟩) (fun i c σ H2 hc p => ?_) (fun σ H2 p => ?_)
        · obtain ⟨⟨y, rfl⟩, e2, ha⟩ := p
          have hc' := tl_ix hc
          rw [tl_cut1] at hc'
          refine s_when (et_test (ev_op (ev_var rfl) ev_c rv_niS)) (fun h1 H3 e3 => ?_) (fun h1 H3 e3 => ?_)
          · refine s_ret ev_c fun H4 e4 => ?_
            have hn : letterB (tl x) n = false := by
              unfold letterB
              rw [all_not hc' (by simpa using h1), Bool.and_false]
            rw [hn] at k
            exact k H4 ((e2.trans e3).trans e4)
          · refine ⟨⟨_, rfl⟩, e2.trans e3, ?_⟩
            rw [all_take hc', ha]
            simpa using h1
        · obtain ⟨⟨y, rfl⟩, e2, ha⟩ := p
          refine s_ret ev_c fun H4 e4 => ?_
          have hn : letterB (tl x) n = true := by
            unfold letterB
            rw [tl_size, tl_cut1, List.take_length] at ha
            rw [hb, ha, hb2]
            rfl
          rw [hn] at k
          exact k H4 (e2.trans e4)
end
end K01
-- E3
namespace K01
open PySem PySem.Spec PyProof.Rows L2 Evl KEv TL
section
variable {P : Program} {w : World} {K : PySem.W.Frag} {mg : Str → Option Value} {base : Heap}
/-! the law's own is_name, is_letter -/
theorem small_not_digit : ∀ c ∈ tl small, c ∉ tl digits := by decide
theorem both_eq (c : Nat) : decide (c ∈ tl ("abcdefghijklmnopqrstuvwxyz0123456789" : Str)) = (decide (c ∈ tl small) || decide (c ∈ tl digits)) := by
  have e : tl ("abcdefghijklmnopqrstuvwxyz0123456789" : Str) = tl small ++ tl digits := by decide
  rw [e, ← Bool.decide_or]
  exact decide_eq_decide.mpr List.mem_append
theorem name_alt (l : List Nat) : nameB l = ((l.all fun c => decide (c ∈ tl small) || decide (c ∈ tl digits)) && (decide (1 ≤ l.length) && decide (l.length ≤ 24) && !headIn (tl digits) l)) := by
  unfold nameB
  cases l with
  | nil => rfl
  | cons c r =>
    simp only [headIn, List.all_cons]
    by_cases h1 : c ∈ tl small
    · have h2 := small_not_digit c h1
      simp [h1, h2, Bool.and_comm]
    · by_cases h2 : c ∈ tl digits <;> simp [h1, h2]
theorem scLIsName : FnScope ["text", "character"] ["text"] (defScope (topS 29)) := ⟨rfl, rfl, rfl, by decide +kernel, rfl, by decide +kernel, by decide +kernel⟩
theorem ok_law_is_name {f : Addr} {fd : FuncData} (D : DefAt K mg 29 "_law_is_name" ["text"] f fd) (N : Nm mg) : FnOk P w K mg base CX0 1 f fd ["text"] spIsName := by
  refine D.F.ok scLIsName (fun vs H Q E h => ?_) (fun cdv A outer s H vs Q E hr h => ?_)
  · obtain ⟨x, rfl, _⟩ := h
    rfl
  · obtain ⟨x, rfl, hl, k⟩ := h
    refine ⟨_, pss_cons (ps_for PassesOwn.never rfl (pi_str (pv 0)) (pg_name (i := 1) scLIsName.nd rfl (.inl rfl)) (pss_one (ps_if (pt_cmpR op_niS (pv 1) pe_str rfl) (pss_one (ps_ret pe_bl)) pss_nil)))
      (pss_one (ps_ret (pe_and (pe_chain op_le op_le pe_int (pe_callB call_lenT (by rfl) N.len PySem.boot_len (pa_cons (pv 0) pa_nil)) pe_int) (pe_one (pe_cmpR op_niS (pe_ix ix_str (pv 0) pe_int (fun _ _ => rfl)) pe_str rfl))))), ?_⟩
    have el : (x.length : Int) = ((tl x).length : Int) := by rw [len_tl]
    refine q_forS (x := x) (ev_var rfl) (fun i σ H2 => (∃ y, σ = [some (.str x), y]) ∧ Ex H H2 ∧ ((tl x).take i).all (fun c => decide (c ∈ tl small) || decide (c ∈ tl digits)) = true) (fun H2 e2 => ⟨⟨_, rfl⟩, e2, rfl⟩) (fun i c σ H2 hc p => ?_) (fun σ H2 p => ?_)
    · obtain ⟨⟨y, rfl⟩, e2, ha⟩ := p
      have hc' := tl_ix hc
      refine s_when (et_test (ev_op (ev_var rfl) ev_c rv_niS)) (fun h1 H3 e3 => ?_) (fun h1 H3 e3 => ?_)
      · refine s_ret ev_c fun H4 e4 => ?_
        have h1 : (!decide (c ∈ tl ("abcdefghijklmnopqrstuvwxyz0123456789" : Str))) = true := h1
        rw [both_eq] at h1
        have hn : nameB (tl x) = false := by
          unfold nameB
          rw [all_not hc' (by simpa using h1), Bool.and_false]
        rw [hn] at k
        exact k H4 ((e2.trans e3).trans e4)
      · refine ⟨⟨_, rfl⟩, e2.trans e3, ?_⟩
        have h1 : (!decide (c ∈ tl ("abcdefghijklmnopqrstuvwxyz0123456789" : Str))) = false := h1
        rw [both_eq, Bool.not_eq_false'] at h1
        rw [all_take hc', ha, h1]
        rfl
    · obtain ⟨⟨y, rfl⟩, e2, ha⟩ := p
      rw [tl_size, List.take_length] at ha
      refine s_ret (v := .bl (nameB (tl x))) (ev_is (ev_andV (ev_chain ev_c (ev_lenT (a := x) (ev_var rfl) (by omega)) rv_I0 (fun _ => ev_c) (fun _ => rv_I0)) (b := !headIn (tl digits) (tl x)) (fun h1 => ?_)) ?_) fun H4 e4 => k H4 (e2.trans e4)
      · rw [Bool.and_eq_true, decide_eq_true_eq] at h1
        cases ex : tl x with
        | nil =>
          rw [el, ex] at h1
          exact absurd h1.1 (by decide)
        | cons c r => exact ev_op (ev_op (ev_var rfl) ev_c (rv_ixS hl (c := c) (by rw [show x.cps.toList = c :: r from ex]; exact atI_nat (j := 0) rfl))) ev_c rv_niS
      · rw [name_alt, ha, el]
        have h1 : decide ((1 : Int) ≤ ((tl x).length : Int)) = decide (1 ≤ (tl x).length) := decide_eq_decide.mpr (by omega)
        have h2 : decide (((tl x).length : Int) ≤ 24) = decide ((tl x).length ≤ 24) := decide_eq_decide.mpr (by omega)
        rw [h1, h2]
        rfl
theorem letter_alt (l : List Nat) (n : Int) : letterB l n = (!(decide (l.length < 2) || !headIn (tl capitals) l) && ((l.drop 1).all fun c => decide (c ∈ tl digits)) && (decide ((l.length : Int) - 1 ≤ n) && (!secondIs 48 l || decide (l.length = 2)))) := by
  unfold letterB
  have e1 : decide (2 ≤ l.length) = !decide (l.length < 2) := by
    by_cases h : 2 ≤ l.length
    · rw [decide_eq_true h, decide_eq_false (by omega)]
      rfl
    · rw [decide_eq_false h, decide_eq_true (by omega)]
      rfl
  have e2 : decide ((l.length : Int) ≤ n + 1) = decide ((l.length : Int) - 1 ≤ n) := decide_eq_decide.mpr (by omega)
  rw [e1, e2]
  by_cases h : l.length < 2
  · simp [h]
  · have e3 : decide (2 < l.length) = !decide (l.length = 2) := by
      by_cases h : l.length = 2
      · rw [decide_eq_true h, decide_eq_false (by omega)]
        rfl
      · rw [decide_eq_false h, decide_eq_true (by omega)]
        rfl
    rw [e3]
    cases decide (l.length < 2) <;> cases headIn (tl capitals) l <;> cases decide ((l.length : Int) - 1 ≤ n) <;> cases secondIs 48 l <;> cases decide (l.length = 2) <;> simp
theorem scLIsLetter : FnScope ["text", "many", "character"] ["text", "many"] (defScope (topS 30)) := ⟨rfl, rfl, rfl, by decide +kernel, rfl, by decide +kernel, by decide +kernel⟩
theorem ok_law_is_letter {f : Addr} {fd : FuncData} (D : DefAt K mg 30 "_law_is_letter" ["text", "many"] f fd) (N : Nm mg) : FnOk P w K mg base CX0 1 f fd ["text", "many"] spIsLetter := by
  refine D.F.ok scLIsLetter (fun vs H Q E h => ?_) (fun cdv A outer s H vs Q E hr h => ?_)
  · obtain ⟨x, n, rfl, _⟩ := h
    rfl
  · obtain ⟨x, n, rfl, hl, k⟩ := h
    refine ⟨_, pss_cons (ps_if (PW.pt (pw_or (pt_cmpR op_lt (pe_callB call_lenT (by rfl) N.len PySem.boot_len (pa_cons (pv 0) pa_nil)) pe_int (nomark _)) (pw_or1 (pt_cmpR op_niS (pe_ix ix_str (pv 0) pe_int (fun _ _ => rfl)) pe_str rfl)))) (pss_one (ps_ret pe_bl)) pss_nil)
      (pss_cons (ps_for PassesOwn.never rfl (pi_str (pe_slice sl_str (pv 0) (po_some pe_int) po_none)) (pg_name (i := 2) scLIsLetter.nd rfl (.inl rfl)) (pss_one (ps_if (pt_cmpR op_niS (pv 2) pe_str rfl) (pss_one (ps_ret pe_bl)) pss_nil)))
      (pss_one (ps_ret (pe_and (pe_cmpR op_le (pe_op op_sub (pe_callB call_lenT (by rfl) N.len PySem.boot_len (pa_cons (pv 0) pa_nil)) pe_int) (pv 1) (nomark _))
        (pe_one (pe_or (pe_cmpR op_ne (pe_ix ix_str (pv 0) pe_int (fun _ _ => rfl)) pe_str (nomark _)) (pe_one (pe_cmpR op_eq (pe_callB call_lenT (by rfl) N.len PySem.boot_len (pa_cons (pv 0) pa_nil)) pe_int (nomark _))))))))), ?_⟩
    have el : (x.length : Int) = ((tl x).length : Int) := by rw [len_tl]
    have hlen : decide ((x.length : Int) < 2) = decide ((tl x).length < 2) := by
      rw [el]
      exact decide_eq_decide.mpr (by omega)
    refine q_when (b := decide ((tl x).length < 2) || !headIn (tl capitals) (tl x)) (et_or (et_is (et_test (ev_op (ev_lenT (a := x) (ev_var rfl) (by omega)) ev_c rv_I0)) hlen) fun h1 => ?_) (fun hb H1 e1 => ?_) (fun hb H1 e1 => ?_)
    · rw [decide_eq_false_iff_not] at h1
      cases ex : tl x with
      | nil =>
        rw [ex] at h1
        simp at h1
      | cons c r => exact et_test (ev_op (ev_op (ev_var rfl) ev_c (rv_ixS hl (c := c) (by rw [show x.cps.toList = c :: r from ex]; exact atI_nat (j := 0) rfl))) ev_c rv_niS)
    · refine s_ret ev_c fun H2 e2 => ?_
      have hn : letterB (tl x) n = false := by
        rw [letter_alt, hb]
        rfl
      rw [hn] at k
      exact k H2 (e1.trans e2)
    · obtain ⟨c, d, r, ex⟩ : ∃ c d r, tl x = c :: d :: r := by
        rw [Bool.or_eq_false_iff, decide_eq_false_iff_not] at hb
        have h2 := hb.1
        cases ex : tl x with
        | nil => rw [ex] at h2; simp at h2
        | cons c r =>
          cases r with
          | nil => rw [ex] at h2; simp at h2
          | cons d r => exact ⟨c, d, r, rfl⟩
      refine q_forS (x := cutS x (some 1) none) (ev_slS (ev_var rfl) (eo_some ev_c) eo_none (by omega)) (fun i σ H2 => (∃ y, σ = [some (.str x), some (.int n), y]) ∧ Ex H H2 ∧ (((tl x).drop 1).take i).all (fun c => decide (c ∈ tl digits)) = true) (fun H3 e3 => ⟨⟨_, rfl⟩, e1.trans e3, rfl⟩) (fun i c σ H2 hc p => ?_) (fun σ H2 p => ?_)
      · obtain ⟨⟨y, rfl⟩, e2, ha⟩ := p
        have hc' := tl_ix hc
        rw [tl_cut1] at hc'
        refine s_when (et_test (ev_op (ev_var rfl) ev_c rv_niS)) (fun h1 H3 e3 => ?_) (fun h1 H3 e3 => ?_)
        · refine s_ret ev_c fun H4 e4 => ?_
          have h1 : (!decide (c ∈ tl digits)) = true := h1
          have hn : letterB (tl x) n = false := by
            unfold letterB
            rw [all_not hc' (by simpa using h1), Bool.and_false]
          rw [hn] at k
          exact k H4 ((e2.trans e3).trans e4)
        · refine ⟨⟨_, rfl⟩, e2.trans e3, ?_⟩
          have h1 : (!decide (c ∈ tl digits)) = false := h1
          rw [all_take hc', ha]
          simpa using h1
      · obtain ⟨⟨y, rfl⟩, e2, ha⟩ := p
        rw [tl_size, tl_cut1, List.take_length] at ha
        refine s_ret (v := .bl (letterB (tl x) n)) (ev_is (ev_andV (ev_op (ev_op (ev_lenT (a := x) (ev_var rfl) (by omega)) ev_c rv_I0) (ev_var rfl) rv_I0) fun _ =>
          ev_orV (ev_op (ev_op (ev_var rfl) ev_c (rv_ixS hl (c := d) (by rw [show x.cps.toList = c :: d :: r from ex]; exact atI_nat (j := 1) rfl))) ev_c (rv_ne rfl)) fun _ => ev_op (ev_lenT (a := x) (ev_var rfl) (by omega)) ev_c (rv_eq rfl)) ?_) fun H4 e4 => k H4 (e2.trans e4)
        rw [letter_alt, hb, ha, zero_eq, el]
        have h4 : decide (V.int ((tl x).length : Int) = V.int 2) = decide ((tl x).length = 2) := decide_eq_decide.mpr ⟨fun h => by have := V.int.inj h; omega, fun h => by rw [h]; rfl⟩
        rw [h4, ex]
        rfl
end
end K01
-- KDraw
/-! what is drawn: a list of whole numbers that every taking changes; all else that is known stays -/
namespace KD
open PySem PySem.Spec PyProof.Rows L2 Evl KEv
def GoodL (xs : List Int) : Prop := xs ≠ [] ∧ xs.length ≤ 10000 ∧ ∀ x ∈ xs, 0 ≤ x ∧ x < 2147483647
def Dr (H : Hp) (d : Addr) : Prop := ∃ xs, GoodL xs ∧ H d = some (.lst (xs.map V.int))
/-- B is known of H, the draws stand at d (and are not part of B) -/
structure Sd (B : Hp) (d : Addr) (H : Hp) : Prop where
  ex : Ex B H
  no : B d = none
  dr : Dr H d
def hide (H : Hp) (d : Addr) : Hp := fun b => if b = d then none else H b
theorem hide_at {H : Hp} {d : Addr} : hide H d d = none := by
  unfold hide
  rw [if_pos rfl]
theorem hide_ne {H : Hp} {d b : Addr} (h : b ≠ d) : hide H d b = H b := by
  unfold hide
  rw [if_neg h]
theorem hide_ex {H : Hp} {d : Addr} : Ex (hide H d) H := fun b o e => by
  by_cases h : b = d
  · rw [h, hide_at] at e
    cases e
  · rwa [hide_ne h] at e
theorem Sd.of {H : Hp} {d : Addr} (h : Dr H d) : Sd (hide H d) d H := ⟨hide_ex, hide_at, h⟩
theorem Dr.mono {H H' : Hp} {d : Addr} (e : Ex H H') (h : Dr H d) : Dr H' d := by
  obtain ⟨xs, g, h⟩ := h
  exact ⟨xs, g, e _ _ h⟩
theorem Sd.mono {B H H' : Hp} {d : Addr} (s : Sd B d H) (e : Ex H H') : Sd B d H' := ⟨s.ex.trans e, s.no, s.dr.mono e⟩
theorem Sd.ne {B H : Hp} {d p : Addr} (s : Sd B d H) (h : H p = none) : p ≠ d := fun z => by
  obtain ⟨xs, _, e⟩ := s.dr
  rw [z, e] at h
  cases h
/-- B lies below what H hides nothing but the draws of -/
theorem Sd.below {B H : Hp} {d : Addr} (s : Sd B d H) : Ex B (hide H d) := fun b o e => by
  have h : b ≠ d := fun z => by
    rw [z, s.no] at e
    cases e
  rw [hide_ne h]
  exact s.ex b o e
/-- one more object is known -/
theorem Sd.known {B H : Hp} {d p : Addr} {o : HO} (s : Sd B d H) (h : p ≠ d) (e : H p = some o) : Sd (upd B p o) d H := ⟨fun b u q => by
    by_cases hb : b = p
    · rw [hb, upd_same] at q
      rw [hb, e, ← q]
    · rw [upd_ne hb] at q
      exact s.ex b u q, by rw [upd_ne (Ne.symm h)]; exact s.no, s.dr⟩
/-- the draws are changed -/
theorem Sd.drawn {B H : Hp} {d : Addr} {xs : List Int} (s : Sd B d H) (g : GoodL xs) : Sd B d (upd H d (.lst (xs.map V.int))) := ⟨s.ex.mut s.no, s.no, xs, g, upd_same⟩
/-- an object that is known is changed -/
theorem Sd.change {B H : Hp} {d p : Addr} {o u : HO} (s : Sd B d H) (h : B p = some u) : Sd (upd B p o) d (upd H p o) := by
  have hd : p ≠ d := fun z => by
    rw [z, s.no] at h
    cases h
  refine ⟨fun b v q => ?_, by rw [upd_ne (Ne.symm hd)]; exact s.no, ?_⟩
  · by_cases hb : b = p
    · rw [hb, upd_same] at q
      rw [hb, upd_same, q]
    · rw [upd_ne hb] at q ⊢
      exact s.ex b v q
  · obtain ⟨xs, g, e⟩ := s.dr
    exact ⟨xs, g, by rw [upd_ne (Ne.symm hd)]; exact e⟩
/-- a promise of a def that draws: A of the other arguments, R of its value -/
def spGen (A : List V → Hp → Prop) (R : List V → V → Hp → Prop) : Sp := fun vs H Q _ => ∃ (d : Addr) (rest : List V), vs = .ref d :: rest ∧ Dr H d ∧ A rest (hide H d) ∧ ∀ v B' H', Ex (hide H d) B' → Sd B' d H' → R rest v B' → Q v H'
def EvG (te : TE) (σ : L2.St) (B : Hp) (d : Addr) (R : V → Hp → Prop) : Prop := ∀ H, Sd B d H → ∀ Q : VK, (∀ v B' H', Ex B B' → Sd B' d H' → R v B' → Q v H') → te σ H Q
def EvGT (tt : TT) (σ : L2.St) (B : Hp) (d : Addr) (R : Bool → Hp → Prop) : Prop := ∀ H, Sd B d H → ∀ Q : Bool → Hp → Prop, (∀ b B' H', Ex B B' → Sd B' d H' → R b B' → Q b H') → tt σ H Q
def EvGA (ta : TA) (σ : L2.St) (B : Hp) (d : Addr) (R : List V → Hp → Prop) : Prop := ∀ H, Sd B d H → ∀ Q : List V → Hp → Prop, (∀ vs B' H', Ex B B' → Sd B' d H' → R vs B' → Q vs H') → ta σ H Q
section
variable {K : PySem.W.Frag} {σ : L2.St} {B H : Hp} {d : Addr} {ta tb te : TE} {tt tu : TT} {v x y z : V} {xs : List V} {R Ra R' : V → Hp → Prop} {r : R2}
theorem eg_lift (h : Ev te σ B v) : EvG te σ B d fun u B' => u = v ∧ B' = B := fun H s Q q => h H s.ex Q fun H2 e2 => q v B H2 (Ex.refl B) (s.mono e2) ⟨rfl, rfl⟩
theorem eg_liftL (h : EvL te σ B xs) : EvG te σ B d fun u B' => ∃ p, u = .ref p ∧ B p = none ∧ p ≠ d ∧ B' = upd B p (.lst xs) := fun H s Q q => h H s.ex Q fun p H2 hp e2 h2 => by
  have nb : B p = none := fresh_back s.ex hp
  exact q (.ref p) (upd B p (.lst xs)) H2 (Ex.new nb) ((s.mono e2).known (s.ne hp) h2) ⟨p, rfl, nb, s.ne hp, rfl⟩
theorem eg_liftU (h : EvU te σ B xs) : EvG te σ B d fun u B' => ∃ p, u = .ref p ∧ B p = none ∧ p ≠ d ∧ B' = upd B p (.tup xs) := fun H s Q q => h H s.ex Q fun p H2 hp e2 h2 => by
  have nb : B p = none := fresh_back s.ex hp
  exact q (.ref p) (upd B p (.tup xs)) H2 (Ex.new nb) ((s.mono e2).known (s.ne hp) h2) ⟨p, rfl, nb, s.ne hp, rfl⟩
theorem EvG.imp (h : EvG te σ B d R) (hi : ∀ v B', Ex B B' → R v B' → R' v B') : EvG te σ B d R' := fun H s Q q => h H s Q fun v B' H' e s' r => q v B' H' e s' (hi v B' e r)
theorem eg_op {Rb : V → V → Hp → Prop} (ha : EvG ta σ B d Ra) (hb : ∀ x B1, Ex B B1 → Ra x B1 → EvG tb σ B1 d (Rb x)) (hr : ∀ x y B1 B2, Ex B B1 → Ra x B1 → Ex B1 B2 → Rb x y B2 → ∃ z, RV r x y B2 z ∧ R z B2) : EvG (tOp r ta tb) σ B d R := fun H s Q q =>
  ha H s _ fun x B1 H1 e1 s1 r1 => hb x B1 e1 r1 H1 s1 _ fun y B2 H2 e2 s2 r2 => by
    obtain ⟨z, hz, rz⟩ := hr x y B1 B2 e1 r1 e2 r2
    exact hz H2 s2.ex Q fun H3 e3 => q z B2 H3 (e1.trans e2) (s2.mono e3) rz
theorem ega_nil : EvGA tNil σ B d fun vs B' => vs = [] ∧ B' = B := fun H s Q q => q [] B H (Ex.refl B) s ⟨rfl, rfl⟩
theorem ega_cons {tr : TA} {Rr : V → List V → Hp → Prop} {Rw : List V → Hp → Prop} (h : EvG te σ B d R) (hr : ∀ v B1, Ex B B1 → R v B1 → EvGA tr σ B1 d (Rr v)) (hw : ∀ v vs B1 B2, Ex B B1 → R v B1 → Ex B1 B2 → Rr v vs B2 → Rw (v :: vs) B2) : EvGA (tCons te tr) σ B d Rw := fun H s Q q =>
  h H s _ fun v B1 H1 e1 s1 r1 => hr v B1 e1 r1 H1 s1 _ fun vs B2 H2 e2 s2 r2 => q (v :: vs) B2 H2 (e1.trans e2) s2 (hw v vs B1 B2 e1 r1 e2 r2)
theorem ega_lift {ta : TA} {vs : List V} (h : EvA ta σ B vs) : EvGA ta σ B d fun us B' => us = vs ∧ B' = B := fun H s Q q => h H s.ex Q fun H2 e2 => q vs B H2 (Ex.refl B) (s.mono e2) ⟨rfl, rfl⟩
/-- a call of a def that draws: its first argument the draws -/
theorem eg_call {ta : TA} {A : List V → Hp → Prop} {Rc : List V → V → Hp → Prop} {Rs : List V → Hp → Prop} {E : XK} (h : EvGA ta σ B d Rs) (ha : ∀ us B1 H1, Ex B B1 → Rs us B1 → Ex B1 H1 → ∃ rest, us = .ref d :: rest ∧ A rest H1) (hr : ∀ rest B1 B2 v, Ex B B1 → Rs (.ref d :: rest) B1 → Ex B1 B2 → Rc rest v B2 → R v B2) :
    EvG (tCall (spGen A Rc) [] E ta) σ B d R := fun H s Q q => h H s _ fun us B1 H1 e1 s1 r1 => by
  obtain ⟨rest, eu, hA⟩ := ha us B1 (hide H1 d) e1 r1 s1.below
  subst eu
  refine ⟨d, rest, List.append_nil _, s1.dr, hA, fun v B2 H2 e2 s2 r2 => ?_⟩
  exact q v B2 H2 ((e1.trans s1.below).trans e2) s2 (hr rest B1 B2 v e1 r1 (s1.below.trans e2) r2)
/-! tests -/
theorem egt_test {Rt : Bool → Hp → Prop} (h : EvG te σ B d R) (hb : ∀ v B', Ex B B' → R v B' → ∃ b, v = .bl b ∧ Rt b B') : EvGT (tTest te) σ B d Rt := fun H s Q q => h H s _ fun v B' H' e s' r => by
  obtain ⟨b, eb, rb⟩ := hb v B' e r
  exact ⟨b, eb, q b B' H' e s' rb⟩
theorem egt_lift {b : Bool} (h : EvT tt σ B b) : EvGT tt σ B d fun c B' => c = b ∧ B' = B := fun H s Q q => h H s.ex Q fun H2 e2 => q b B H2 (Ex.refl B) (s.mono e2) ⟨rfl, rfl⟩
theorem egt_and {Rt Ru Rw : Bool → Hp → Prop} (h1 : EvGT tt σ B d Rt) (h2 : ∀ B1, Ex B B1 → Rt true B1 → EvGT tu σ B1 d Ru) (hf : ∀ B1, Ex B B1 → Rt false B1 → Rw false B1) (hw : ∀ b B1 B2, Ex B B1 → Rt true B1 → Ex B1 B2 → Ru b B2 → Rw b B2) : EvGT (tAnd tt tu) σ B d Rw := fun H s Q q =>
  h1 H s _ fun b B1 H1 e1 s1 r1 => by
    cases b with
    | true =>
      show tu σ H1 Q
      exact h2 B1 e1 r1 H1 s1 Q fun c B2 H2 e2 s2 r2 => q c B2 H2 (e1.trans e2) s2 (hw c B1 B2 e1 r1 e2 r2)
    | false =>
      show Q false H1
      exact q false B1 H1 e1 s1 (hf B1 e1 r1)
/-! statements -/
variable {D : Ends} {ts tw tz : TS}
theorem g_asg {i : Nat} (h : EvG te σ B d R) (s : Sd B d H) (k : ∀ v B' H', Ex B B' → Sd B' d H' → R v B' → D.nx (σ.set i (some v)) H') : tAsg te (gName i) D σ H := h H s _ fun v B' H' e s' r => k v B' H' e s' r
theorem gq_asg {i : Nat} (h : EvG te σ B d R) (s : Sd B d H) (k : ∀ v B' H', Ex B B' → Sd B' d H' → R v B' → tz D (σ.set i (some v)) H') : tSeq (tAsg te (gName i)) tz D σ H := h H s _ fun v B' H' e s' r => k v B' H' e s' r
theorem g_ret (h : EvG te σ B d R) (s : Sd B d H) (k : ∀ v B' H', Ex B B' → Sd B' d H' → R v B' → D.rt v H') : tRet te D σ H := h H s _ fun v B' H' e s' r => k v B' H' e s' r
theorem g_if {Rt : Bool → Hp → Prop} (h : EvGT tt σ B d Rt) (s : Sd B d H) (h1 : ∀ B' H', Ex B B' → Sd B' d H' → Rt true B' → ts D σ H') (h2 : ∀ B' H', Ex B B' → Sd B' d H' → Rt false B' → tw D σ H') : tIfS tt ts tw D σ H := h H s _ fun b B' H' e s' r => by
  cases b with
  | true =>
    show ts D σ H'
    exact h1 B' H' e s' r
  | false =>
    show tw D σ H'
    exact h2 B' H' e s' r
/-- an if, then the rest: what stands between is told once -/
theorem gq_if {Rt : Bool → Hp → Prop} (h : EvGT tt σ B d Rt) (s : Sd B d H) (h1 : ∀ B' H', Ex B B' → Sd B' d H' → Rt true B' → ts { D with nx := tz D } σ H') (h2 : ∀ B' H', Ex B B' → Sd B' d H' → Rt false B' → tw { D with nx := tz D } σ H') : tSeq (tIfS tt ts tw) tz D σ H :=
  g_if (D := { D with nx := tz D }) h s h1 h2
/-- for k in range(n): the turns draw -/
theorem g_range {j : Nat} {n : Nat} {ta : TA} {tb : TS} (h : EvA ta σ B [.int (n : Int)]) (s : Sd B d H) (hn : n ≤ 100000) (Pv : Nat → L2.St → Hp → Prop) (h0 : ∀ H', Sd B d H' → Pv 0 σ H')
    (hs : ∀ (i : Nat) σ' H', i < n → Pv i σ' H' → tb { D with nx := Pv (i + 1), ct := Pv (i + 1), bk := tz D } (σ'.set j (some (.int (i : Int)))) H') (hd : ∀ σ' H', Pv n σ' H' → tz D σ' H') : tSeq (tFor (iRng1 ta) (gName j) tb) tz D σ H :=
  q_forR1 (H := H) (fun H1 e Q q => h H1 (s.ex.trans e) Q q) ⟨by omega, by omega⟩ Pv (fun H1 e => h0 H1 (s.mono e)) (fun i σ' H' hi p => hs i σ' H' (by omega) p) (fun σ' H' p => hd σ' H' (by simpa using p))
end
/-! the taking itself -/
def takeA : List V → Hp → Prop := fun rest _ => ∃ m : Int, rest = [.int m] ∧ 0 < m
def takeR : List V → V → Hp → Prop := fun rest v _ => ∃ m r : Int, rest = [.int m] ∧ v = .int r ∧ 0 ≤ r ∧ r < m
abbrev spTake : Sp := spGen takeA takeR
section
variable {K : PySem.W.Frag} {σ : L2.St} {B H : Hp} {d : Addr} {ta tb te td : TE} {E : XK}
theorem eg_take {m : Int} (hd : Ev td σ B (.ref d)) (hm : Ev te σ B (.int m)) (h0 : 0 < m) : EvG (tCall spTake [] E (tCons td (tCons te tNil))) σ B d fun v B' => (∃ r, v = .int r ∧ 0 ≤ r ∧ r < m) ∧ Ex B B' :=
  eg_call (ega_lift (ea_cons hd (ea_cons hm ea_nil))) (fun us B1 H1 _ e _ => ⟨[.int m], e.1, m, rfl, h0⟩) fun rest B1 B2 v e1 h e2 hr => by
    obtain ⟨m', r, er, ev, r0, r1⟩ := hr
    have e3 := h.1
    rw [er] at e3
    have e4 : m' = m := by
      have := List.cons.inj (List.cons.inj e3).2
      exact V.int.inj this.1
    rw [e4] at r1
    exact ⟨⟨r, ev, r0, r1⟩, e1.trans e2⟩
/-- a written text at a drawn place -/
theorem eg_sign {w : Str} {ti : TE} {n : Int} (hw : Ev te σ B (.str w)) (hi : EvG ti σ B d fun v B' => (∃ r, v = .int r ∧ 0 ≤ r ∧ r < n) ∧ Ex B B') (hn : n ≤ (w.length : Int)) (hl : w.length ≤ 100000) : EvG (tOp rIxS te ti) σ B d fun v B' => (∃ c, v = .str ⟨#[c]⟩ ∧ c ∈ TL.tl w) ∧ Ex B B' :=
  eg_op (eg_lift hw) (fun x B1 _ e => by rw [e.2]; exact hi) fun x y B1 B2 _ hx e2 hy => by
    obtain ⟨⟨r, ey, r0, r1⟩, e3⟩ := hy
    have hr : r.toNat < w.cps.toList.length := by
      have : w.length = w.cps.toList.length := by simp [Str.length]
      omega
    obtain ⟨c, hc⟩ : ∃ c, w.cps.toList[r.toNat]? = some c := ⟨_, List.getElem?_eq_getElem hr⟩
    rw [hx.1, ey]
    exact ⟨_, rv_ixS hl (by rw [show r = ((r.toNat : Nat) : Int) by omega]; exact atI_nat hc), ⟨c, rfl, List.mem_of_getElem? hc⟩, e3⟩
end
end KD
-- E4
namespace K01
open PySem PySem.Spec PyProof.Rows L2 Evl KEv TL KD
section
variable {P : Program} {w : World} {K : PySem.W.Frag} {mg : Str → Option Value} {base : Heap}
/-! _law_take -/
theorem scTake : FnScope ["draws", "many"] ["draws", "many"] (defScope (topS 19)) := ⟨rfl, rfl, rfl, by decide +kernel, rfl, by decide +kernel, by decide +kernel⟩
theorem mod_range {a m : Int} (h : 0 < m) : 0 ≤ a.fmod m ∧ a.fmod m < m := ⟨Int.fmod_nonneg_of_pos a h, Int.fmod_lt_of_pos a h⟩
theorem ok_take {f : Addr} {fd : FuncData} (D : DefAt K mg 19 "_law_take" ["draws", "many"] f fd) (N : Nm mg) (mi : mg "int" = none) : FnOk P w K mg base CX0 1 f fd ["draws", "many"] spTake := by
  refine D.F.ok scTake (fun vs H Q E h => ?_) (fun cdv A outer s H vs Q E hr h => ?_)
  · obtain ⟨d, rest, rfl, _, ⟨m, rfl, _⟩, _⟩ := h
    rfl
  · obtain ⟨d, rest, rfl, hd, ⟨m, rfl, hm⟩, k⟩ := h
    obtain ⟨xs, g, hx⟩ := hd
    have s0 : Sd (hide H d) d H := Sd.of ⟨xs, g, hx⟩
    have hz : xs.length ≤ 10000 := g.2.1
    refine ⟨_, pss_cons (ps_if (pt_cmpR op_gt (pe_callB call_len_seq (by rfl) N.len PySem.boot_len (pa_cons (pv 0) pa_nil)) pe_int (nomark _))
        (pss_one (ps_ret (pe_op op_modN (pe_callTy call_intI (by rfl) mi (by decide +kernel) (pa_cons (pe_bm0 PySem.F.plainAttrs_list PySem.F.slot_list_pop PySem.F.type_list_pop mt_pop (pv 0)) pa_nil)) (pv 1)))) pss_nil)
      (pss_cons (ps_asg (pe_op op_modN (pe_callTy call_intI (by rfl) mi (by decide +kernel) (pa_cons (pe_op op_add (pe_op op_mul (pe_ix ix_list (pv 0) pe_int (fun _ _ => rfl)) pe_int) pe_int) pa_nil)) pe_int) (pg_sub (pv 0) pe_int set_list))
      (pss_one (ps_ret (pe_op op_modN (pe_callTy call_intI (by rfl) mi (by decide +kernel) (pa_cons (pe_op op_fdiv (pe_ix ix_list (pv 0) pe_int (fun _ _ => rfl)) pe_int) pa_nil)) (pv 1))))), ?_⟩
    have hS : SqL K H d (xs.map V.int) := .inl (.inl hx)
    refine ⟨.ref d, rfl, d, xs.map V.int, rfl, .inl hS, _, _, rfl, rfl, _, rfl, ite2 (fun h1 => ?_) (fun h1 => ?_)⟩
    · have h1 := of_decide_eq_true h1
      rw [List.length_map] at h1
      have hl : 2 ≤ xs.length := by omega
      have hlast : xs.length - 1 < xs.length := by omega
      have hp : (xs.map V.int)[(xs.map V.int).length - 1]? = some (.int xs[xs.length - 1]) := by
        rw [List.length_map, List.getElem?_map, List.getElem?_eq_getElem hlast]
        rfl
      refine ⟨.ref d, rfl, .inl ⟨rfl, _, hS⟩, d, xs.map V.int, .int xs[xs.length - 1], rfl, rfl, hx, hp, ?_⟩
      refine .inl ⟨_, rfl, .int m, rfl, _, m, rfl, rfl, (by omega), ?_⟩
      have e : (xs.map V.int).dropLast = xs.dropLast.map V.int := (List.map_dropLast ..).symm
      rw [e]
      have g' : GoodL xs.dropLast := by
        refine ⟨fun z => ?_, by rw [List.length_dropLast]; omega, fun x hx => g.2.2 x ((List.dropLast_sublist xs).subset hx)⟩
        have := congrArg List.length z
        rw [List.length_dropLast] at this
        simp at this
        omega
      exact k _ (hide H d) _ (Ex.refl _) (s0.drawn g') ⟨m, _, rfl, rfl, (mod_range hm).1, (mod_range hm).2⟩
    · obtain ⟨x, r, rfl⟩ : ∃ x r, xs = x :: r := by
        cases xs with
        | nil => exact absurd rfl g.1
        | cons x r => exact ⟨x, r, rfl⟩
      have hx0 := g.2.2 x List.mem_cons_self
      have h0 : H d = some (.lst (.int x :: r.map V.int)) := hx
      refine q_setL (l := d) (xs := .int x :: r.map V.int) (j := 0) h0 (ev_op (ev_cb (ea_cons (ev_op (ev_op (ev_op (ev_var rfl) ev_c (rv_ixL (sq_of h0) (atI_nat (j := 0) rfl))) ev_c (rv_I (.inr (by decide)))) ev_c rv_I0) ea_nil) rc_intI) ev_c (rv_I (by decide))) (ev_var rfl) ev_c (by simp) fun H1 e1 => ?_
      have mr := mod_range (a := x * 48271 + 11) (show (0 : Int) < 2147483647 by decide)
      have g' : GoodL (((x * 48271 + 11).fmod 2147483647) :: r) := ⟨List.cons_ne_nil _ _, by simpa using g.2.1, fun y hy => by
        rcases List.mem_cons.mp hy with rfl | hy
        · exact mr
        · exact g.2.2 y (List.mem_cons_of_mem _ hy)⟩
      have s1 : Sd (hide H d) d (upd H1 d (.lst ((((x * 48271 + 11).fmod 2147483647) :: r).map V.int))) := (s0.mono e1).drawn g'
      have h1 : (upd H1 d (.lst (((.int x :: r.map V.int)).set 0 (.int ((x * 48271 + 11).fmod 2147483647))))) d = some (.lst ((((x * 48271 + 11).fmod 2147483647) :: r).map V.int)) := upd_same
      refine s_ret (ev_op (ev_cb (ea_cons (ev_op (ev_op (ev_var rfl) ev_c (rv_ixL (sq_of h1) (atI_nat (j := 0) rfl))) ev_c (rv_I ⟨by decide, by decide⟩)) ea_nil) rc_intI) (ev_var rfl) (rv_I (show m ≠ 0 by omega))) fun H2 e2 => ?_
      exact k _ (hide H d) _ (Ex.refl _) (s1.mono e2) ⟨m, _, rfl, rfl, (mod_range hm).1, (mod_range hm).2⟩
end
end K01
-- E5
namespace K01
open PySem PySem.Spec PyProof.Rows L2 Evl KEv TL KD
section
variable {P : Program} {w : World} {K : PySem.W.Frag} {mg : Str → Option Value} {base : Heap}
/-! _law_draws -/
theorem scDraws : FnScope ["script", "first", "cells", "found", "at", "cell", "rest", "k", "mixed"] ["script", "first", "cells"] (defScope (topS 18)) := ⟨rfl, rfl, rfl, by decide +kernel, rfl, by decide +kernel, by decide +kernel⟩
def InR (x : Int) : Prop := 0 ≤ x ∧ x < 2147483647
/-- draws are made of any whole numbers -/
def spDraws (K : PySem.W.Frag) : Sp := fun vs H Q _ => ∃ (a : Addr) (ns : List Int), vs = [.ref a, .int 0, .int 20] ∧ SqL K H a (ns.map V.int) ∧ ∀ p H2 xs, H p = none → Ex H H2 → H2 p = some (.lst (xs.map V.int)) → GoodL xs → Q (.ref p) H2
theorem mod997 (a : Int) : InR (a.fmod 997) := by
  have := mod_range (a := a) (show (0 : Int) < 997 by decide)
  exact ⟨this.1, by omega⟩
/-- so many numbers stand in the new list -/
def Lw (p : Addr) (H : Hp) (n : Nat) (H' : Hp) : Prop := Ex H H' ∧ ∃ xs : List Int, H' p = some (.lst (xs.map V.int)) ∧ xs.length = n ∧ ∀ x ∈ xs, InR x
theorem Lw.mono {p : Addr} {H H' H2 : Hp} {n : Nat} (h : Lw p H n H') (e : Ex H' H2) : Lw p H n H2 := ⟨h.1.trans e, h.2.imp fun xs g => ⟨e _ _ g.1, g.2⟩⟩
theorem Lw.app {p : Addr} {H H' : Hp} {n : Nat} {x : Int} (hp : H p = none) {xs : List Int} (e : Ex H H') (hl : xs.length = n) (hx : ∀ y ∈ xs, InR y) (h : InR x) : Lw p H (n + 1) (upd H' p (.lst (xs.map V.int ++ [.int x]))) := ⟨e.mut hp, xs ++ [x], by rw [List.map_append]; exact upd_same, by rw [List.length_append, hl]; rfl, fun y hy => by
  rcases List.mem_append.mp hy with hy | hy
  · exact hx y hy
  · rw [List.mem_singleton.mp hy]
    exact h⟩
theorem ok_draws {f : Addr} {fd : FuncData} (D : DefAt K mg 18 "_law_draws" ["script", "first", "cells"] f fd) (N : Nm mg) (mi : mg "int" = none) (ma : mg "abs" = none) (ms : mg "sum" = none) (mr : mg "range" = none) : FnOk P w K mg base CX0 1 f fd ["script", "first", "cells"] (spDraws K) := by
  refine D.F.ok scDraws (fun vs H Q E h => ?_) (fun cdv A outer s H vs Q E hr h => ?_)
  · obtain ⟨a, ns, rfl, _⟩ := h
    rfl
  · obtain ⟨a, ns, rfl, hS, k⟩ := h
    refine ⟨_, pss_cons (ps_asg (pe_lst pa_nil) (pg_name (i := 3) scDraws.nd rfl (.inl rfl)))
      (pss_cons (ps_for PassesOwn.never rfl (pi_range2 (by rfl) mr (pa_cons (pv 1) (pa_cons (pe_op op_add (pv 1) (pv 2)) pa_nil))) (pg_name (i := 4) scDraws.nd rfl (.inl rfl))
        (pss_cons (ps_asg (pe_op op_add (pe_op op_modN (pe_callB call_absI (by rfl) ma (by decide +kernel) (pa_cons (pe_callTy call_intI (by rfl) mi (by decide +kernel) (pa_cons (pe_callB (cr_sum (by rfl)) (by rfl) ms (by decide +kernel) (pa_cons (pv 0) pa_nil)) pa_nil)) pa_nil)) pe_int) (pe_op op_mul (pv 4) pe_int)) (pg_name (i := 5) scDraws.nd rfl (.inl rfl)))
        (pss_cut (ps_if (pt_cmpR op_lt (pv 4) (pe_callB call_len_seq (by rfl) N.len PySem.boot_len (pa_cons (pv 0) pa_nil)) (nomark _))
          (pss_one (ps_asg (pe_callB call_absI (by rfl) ma (by decide +kernel) (pa_cons (pe_callTy call_intI (by rfl) mi (by decide +kernel) (pa_cons (pe_ix ix_list (pv 0) (pv 4) (fun _ _ => rfl)) pa_nil)) pa_nil)) (pg_name (i := 5) scDraws.nd rfl (.inl rfl)))) pss_nil)
        (pss_cons (ps_asg (pv 5) (pg_name (i := 6) scDraws.nd rfl (.inl rfl)))
        (pss_one (ps_for PassesOwn.never rfl (pi_range1 (by rfl) mr (pa_cons pe_int pa_nil)) (pg_name (i := 7) scDraws.nd rfl (.inl rfl))
          (pss_one (ps_if (PW.pt (pw_and (pt_cmpR op_ge (pv 5) (pe_op op_pow pe_int pe_int) (nomark _)) (pw_and1 (pt_cmpR op_gt (pv 6) pe_int (nomark _)))))
            (pss_cons (ps_expr (pe_bm PySem.F.plainAttrs_list PySem.F.slot_list_append PySem.F.type_list_append mt_append (pv 3) (pa_cons (pe_op op_modN (pe_callTy call_intI (by rfl) mi (by decide +kernel) (pa_cons (pv 6) pa_nil)) pe_int) pa_nil)))
            (pss_one (ps_asg (pe_op op_fdiv (pv 6) pe_int) (pg_name (i := 6) scDraws.nd rfl (.inl rfl)))))
            (pss_cons (ps_asg (pe_op op_modN (pe_callTy call_intI (by rfl) mi (by decide +kernel) (pa_cons (pe_op op_add (pe_op op_add (pe_op op_mul (pv 5) pe_int) (pe_op op_mul (pe_op op_add (pv 7) pe_int) pe_int)) (pe_op op_mul (pv 4) pe_int)) pa_nil)) pe_int) (pg_name (i := 8) scDraws.nd rfl (.inl rfl)))
            (pss_cons (ps_asg (pe_op op_modN (pe_callTy call_intI (by rfl) mi (by decide +kernel) (pa_cons (pe_op op_add (pe_op op_mul (pv 8) (pv 8)) (pe_op op_mul pe_int (pe_op op_add (pv 7) pe_int))) pa_nil)) pe_int) (pg_name (i := 8) scDraws.nd rfl (.inl rfl)))
            (pss_one (ps_expr (pe_bm PySem.F.plainAttrs_list PySem.F.slot_list_append PySem.F.type_list_append mt_append (pv 3) (pa_cons (pe_op op_modN (pe_callTy call_intI (by rfl) mi (by decide +kernel) (pa_cons (pe_op op_fdiv (pv 8) pe_int) pa_nil)) pe_int) pa_nil))))))))))))))
      (pss_cons (ps_expr (pe_bm0 PySem.F.plainAttrs_list PySem.F.slot_list_reverse PySem.F.type_list_reverse mt_reverse (pv 3)))
      (pss_one (ps_ret (pv 3))))), ?_⟩
    refine q_asgL (el_lst ea_nil (by decide)) fun p H1 hp e1 h1 => ?_
    have hp' : H p = none := hp
    refine q_forR2 (lo := 0) (n := 20) (ea_cons (ev_var rfl) (ea_cons (ev_op (ev_var rfl) (ev_var rfl) rv_I0) ea_nil)) (by decide) (fun i σ H' => (∃ u4 u5 u6 u7 u8, σ = [some (.ref a), some (.int 0), some (.int 20), some (.ref p), u4, u5, u6, u7, u8]) ∧ Lw p H (40 * i) H')
      (fun H2 e2 => ⟨⟨_, _, _, _, _, rfl⟩, e1.trans e2, [], e2 _ _ h1, rfl, fun x hx => absurd hx (by simp)⟩) (fun i σ H2 hi q => ?_) (fun σ H2 q => ?_)
    · obtain ⟨⟨u4, u5, u6, u7, u8, rfl⟩, q⟩ := q
      have hSa : SqL K H2 a (ns.map V.int) := ex_l q.1 hS
      refine q_asg (ev_op (ev_op (ev_cb (ea_cons (ev_cb (ea_cons (ev_cb (ea_cons (ev_var rfl) ea_nil) (rc_sum hSa)) ea_nil) rc_intI) ea_nil) rc_abs) ev_c (rv_I (by decide))) (ev_op (ev_var rfl) ev_c (rv_I (.inr (by decide)))) rv_I0) fun H3 e3 => ?_
      have hSb : SqL K H3 a (ns.map V.int) := ex_l e3 hSa
      refine q_cut (M := fun σ H' => (∃ c : Int, σ = [some (.ref a), some (.int 0), some (.int 20), some (.ref p), some (.int (0 + (i : Int))), some (.int c), u6, u7, u8]) ∧ Lw p H (40 * i) H') ?_ fun σ H4 q4 => ?_
      · refine s_when (et_test (ev_op (ev_var rfl) (ev_len (ev_var rfl) hSb) rv_I0)) (fun hb H4 e4 => ?_) (fun hb H4 e4 => ⟨⟨_, rfl⟩, (q.mono e3).mono e4⟩)
        have hb := of_decide_eq_true hb
        rw [List.length_map] at hb
        have hi2 : i < ns.length := by omega
        have hg : (ns.map V.int)[i]? = some (.int ns[i]) := by
          rw [List.getElem?_map, List.getElem?_eq_getElem hi2]
          rfl
        refine s_asg (ev_cb (ea_cons (ev_cb (ea_cons (ev_op (ev_var rfl) (ev_var rfl) (rv_ixL (ex_l e4 hSb) (at_of (show (0 : Int) + (i : Int) = ((i : Nat) : Int) by omega) hg))) ea_nil) rc_intI) ea_nil) rc_abs) fun H5 e5 => ⟨⟨_, rfl⟩, ((q.mono e3).mono e4).mono e5⟩
      · obtain ⟨⟨c, rfl⟩, q⟩ := q4
        refine q_asg (ev_var rfl) fun H5 e5 => ?_
        refine s_forR1 (n := 40) (ea_cons ev_c ea_nil) (by decide) (fun j σ H' => (∃ (r : Int) (u7 u8 : Option V), σ = [some (.ref a), some (.int 0), some (.int 20), some (.ref p), some (.int (0 + (i : Int))), some (.int c), some (.int r), u7, u8]) ∧ Lw p H (40 * i + j) H')
          (fun H6 e6 => ⟨⟨_, _, _, rfl⟩, (q.mono e5).mono e6⟩) (fun j σ H6 hj q => ?_) (fun σ H6 q => ?_)
        · obtain ⟨⟨r, u7, u8, rfl⟩, q⟩ := q
          refine s_if (et_and (et_test (ev_op (ev_var rfl) (ev_op ev_c ev_c (rv_I ⟨by decide, by decide, by decide⟩)) rv_I0)) fun _ => et_test (ev_op (ev_var rfl) ev_c rv_I0)) (fun _ H7 e7 => ?_) (fun _ H7 e7 => ?_)
          · obtain ⟨e8, xs, hx, hl, hin⟩ := q.mono e7
            refine q_app hx (ev_var rfl) (ev_op (ev_cb (ea_cons (ev_var rfl) ea_nil) rc_intI) ev_c (rv_I (by decide))) (by rw [List.length_map]; omega) fun H8 e9 => ?_
            refine s_asg (ev_op (ev_var rfl) ev_c (rv_I ⟨by decide, by decide⟩)) fun H9 e10 => ⟨⟨_, _, _, rfl⟩, (Lw.app hp' (e8.trans e9) hl hin (mod997 _)).mono e10⟩
          · refine q_asg (ev_op (ev_cb (ea_cons (ev_op (ev_op (ev_op (ev_var rfl) ev_c (rv_I (.inr (by decide)))) (ev_op (ev_op (ev_var rfl) ev_c rv_I0) ev_c (rv_I (.inr (by decide)))) rv_I0) (ev_op (ev_var rfl) ev_c (rv_I (.inr (by decide)))) rv_I0) ea_nil) rc_intI) ev_c (rv_I (by decide))) fun H8 e8 => ?_
            refine q_asg (ev_op (ev_cb (ea_cons (ev_op (ev_op (ev_var rfl) (ev_var rfl) (rv_I (.inl ?_))) (ev_op ev_c (ev_op (ev_var rfl) ev_c rv_I0) (rv_I (.inl (by decide)))) rv_I0) ea_nil) rc_intI) ev_c (rv_I (by decide))) fun H9 e9 => ?_
            · have := mod_range (a := c * 48271 + ((j : Int) + 1) * 69621 + (0 + (i : Int)) * 31) (show (0 : Int) < 2147483647 by decide)
              constructor <;> omega
            · obtain ⟨e10, xs, hx, hl, hin⟩ := ((q.mono e7).mono e8).mono e9
              refine s_app hx (ev_var rfl) (ev_op (ev_cb (ea_cons (ev_op (ev_var rfl) ev_c (rv_I ⟨by decide, by decide⟩)) ea_nil) rc_intI) ev_c (rv_I (by decide))) (by rw [List.length_map]; omega) fun H8 e9 => ⟨⟨_, _, _, rfl⟩, Lw.app hp' (e10.trans e9) hl hin (mod997 _)⟩
        · obtain ⟨⟨r, u7, u8, rfl⟩, q⟩ := q
          exact ⟨⟨_, _, _, _, _, rfl⟩, q⟩
    · obtain ⟨⟨u4, u5, u6, u7, u8, rfl⟩, e2, xs, hx, hl, hin⟩ := q
      have e3 : (xs.map V.int).reverse = xs.reverse.map V.int := (List.map_reverse ..).symm
      refine ⟨.ref p, rfl, .inl ⟨rfl, _, sq_of hx⟩, p, xs.map V.int, rfl, rfl, hx, ?_⟩
      rw [e3]
      refine s_ret (ev_var rfl) fun H4 e4 => k p H4 xs.reverse hp ((e2.mut hp).trans e4) (e4 _ _ upd_same) ⟨fun z => ?_, by rw [List.length_reverse, hl]; decide, fun x hx => hin x (List.mem_reverse.mp hx)⟩
      have := congrArg List.length z
      rw [List.length_reverse, hl] at this
      exact absurd this (by decide)
end
end K01
-- KSq
/-! a list or a tuple, walked; dict comprehensions in the manner of Evl -/
namespace KSq
open PySem PySem.Spec PyProof.Rows L2 Evl KEv
def Sq (K : PySem.W.Frag) (H : Hp) (a : Addr) (xs : List V) : Prop := SqL K H a xs ∨ SqT K H a xs
theorem ex_sq {K : PySem.W.Frag} {H H' : Hp} {a : Addr} {xs : List V} (e : Ex H H') (h : Sq K H a xs) : Sq K H' a xs := h.elim (fun h => .inl (ex_l e h)) fun h => .inr (ex_t e h)
/-- over a list or a tuple -/
def iSeq (K : PySem.W.Frag) (tl : TE) : TI := fun σ H R => iList K tl σ H R ∨ iTup K tl σ H R
theorem pi_seq {X : Cx} {tg l : Expr} {tl : TE} (hl : PE X l tl) : PI X tg l (iSeq X.K tl) := ⟨fun pins s σ H R I h => h.elim ((pi_list hl).run pins s σ H R I) ((pi_tup hl).run pins s σ H R I)⟩
/-- any of the two walks, told by xs -/
def WalkS (K : PySem.W.Frag) (J : It) (a : Addr) (xs : List V) : Prop := Walk J xs.length (fun H => Sq K H a xs) (YAt xs)
/-- what is said of a walk over a list or a tuple that stands -/
theorem iseq_go {K : PySem.W.Frag} {tl : TE} {σ : L2.St} {H : Hp} {a : Addr} {xs : List V} {R : It → Hp → Prop} (h : Ev tl σ H (.ref a)) (hx : Sq K H a xs)
    (k : ∀ (J : It) (G : Hp → Prop) H1, Ex H H1 → G H1 → (∀ H2, Ex H H2 → G H2) → Walk J xs.length G (YAt xs) → R J H1) : iSeq K tl σ H R := by
  rcases hx with hx | hx
  · exact .inl (h H (Ex.refl H) _ fun H1 e => ⟨a, rfl, ⟨xs, ex_l e hx⟩, k _ (fun H => SqL K H a xs) H1 e (ex_l e hx) (fun H2 e2 => ex_l e2 hx) walk_list⟩)
  · exact .inr (h H (Ex.refl H) _ fun H1 e => ⟨a, rfl, ⟨xs, ex_t e hx⟩, k _ (fun H => SqT K H a xs) H1 e (ex_t e hx) (fun H2 e2 => ex_t e2 hx) walk_tup⟩)
section
variable {K : PySem.W.Frag} {σ : L2.St} {H : Hp} {a : Addr} {xs : List V} {tl te tk tv : TE} {t : TT} {D : Ends} {tu tz : TS} {j : Nat} {vs : List Nat}
/-- a for over it, its target a name; what stood stays -/
theorem s_forSq (h : Ev tl σ H (.ref a)) (hx : Sq K H a xs) (Pv : Nat → L2.St → Hp → Prop) (h0 : ∀ H1, Ex H H1 → Pv 0 σ H1) (hp : ∀ i σ' H', Pv i σ' H' → Ex H H')
    (hs : ∀ i x σ' H', xs[i]? = some x → Pv i σ' H' → tu { D with nx := Pv (i + 1), ct := Pv (i + 1), bk := D.nx } (σ'.set j (some x)) H') (hd : ∀ σ' H', Pv xs.length σ' H' → D.nx σ' H') : tFor (iSeq K tl) (gName j) tu D σ H :=
  iseq_go h hx fun J G H1 e1 g1 hg w => for_it w Pv (h0 H1 e1) (fun i σ' H' _ p => hg H' (hp i σ' H' p)) (fun i x σ' H2 H3 _ p y => by
    obtain ⟨rfl, hx⟩ := y
    exact hs i x σ' _ hx p) hd
theorem q_forSq (h : Ev tl σ H (.ref a)) (hx : Sq K H a xs) (Pv : Nat → L2.St → Hp → Prop) (h0 : ∀ H1, Ex H H1 → Pv 0 σ H1) (hp : ∀ i σ' H', Pv i σ' H' → Ex H H')
    (hs : ∀ i x σ' H', xs[i]? = some x → Pv i σ' H' → tu { D with nx := Pv (i + 1), ct := Pv (i + 1), bk := tz D } (σ'.set j (some x)) H') (hd : ∀ σ' H', Pv xs.length σ' H' → tz D σ' H') : tSeq (tFor (iSeq K tl) (gName j) tu) tz D σ H :=
  s_forSq (D := { D with nx := tz D }) h hx Pv h0 hp hs hd
/-- a list comprehension over it -/
theorem el_lcSq (f : Nat → Bool) (v : Nat → V) (h : Ev tl σ H (.ref a)) (hx : Sq K H a xs) (hz : xs.length ≤ 40000) (hw : ∀ x, wipe ((wipe σ vs).set j (some x)) vs = wipe σ vs)
    (ht : ∀ (i : Nat) (x : V) H1, Ex H H1 → xs[i]? = some x → EvT t ((wipe σ vs).set j (some x)) H1 (f i)) (he : ∀ (i : Nat) (x : V) H1, Ex H H1 → xs[i]? = some x → f i = true → Ev te ((wipe σ vs).set j (some x)) H1 (v i)) :
    EvL (tLc (iSeq K tl) (gName j) t te vs) σ H (given xs.length f v) := fun H0 e Q q =>
  iseq_go (h.mono e) (ex_sq e hx) fun J G H1 e1 g1 hg w Dl hD =>
    lc_it w (Cw H1 f v Dl) ⟨hD, Ex.new hD, upd_same⟩ (fun i H' _ p => hg H' (e1.trans p.2.1)) (fun i x H2 H3 hi p y => by
      obtain ⟨rfl, hx⟩ := y
      exact ⟨hw x, cw_turn p (by omega) (ht i x H1 (e.trans e1) hx) (fun hf => he i x H1 (e.trans e1) hx hf)⟩)
    (fun H' p => q Dl H' (fresh_back e1 p.1) (e1.trans p.2.1) p.2.2)
/-- all turns give -/
theorem given_all {n : Nat} {f : Nat → Bool} {v : Nat → V} (h : ∀ i, i < n → f i = true) : given n f v = (List.range n).map v := by
  unfold given
  rw [List.filter_eq_self.mpr fun i hi => h i (List.mem_range.mp hi)]
/-! dict comprehensions -/
/-- a new dict -/
def EvD (te : TE) (σ : L2.St) (H : Hp) (kvs : List (Key × V)) : Prop := ∀ H1, Ex H H1 → ∀ Q : VK, (∀ p H2, H1 p = none → Ex H1 H2 → H2 p = some (.dK kvs) → Q (.ref p) H2) → te σ H1 Q
theorem EvD.mono {H' : Hp} {kvs : List (Key × V)} (e : Ex H H') (h : EvD te σ H kvs) : EvD te σ H' kvs := fun H1 a Q q => h H1 (e.trans a) Q q
/-- a dict comprehension over a walk: Pv by the turn and the heap -/
theorem dc_it {J : It} {n : Nat} {G : Hp → Prop} {Y : Nat → Hp → V → Hp → Prop} (w : Walk J n G Y) {g : TG} {tt : TT} {tk tv : TE} {vs : List Nat} {σ : L2.St} {H1 : Hp} {D : Addr} {Qd : Hp → Prop} (Pv : Nat → Hp → Prop) (h0 : Pv 0 (upd H1 D (.dK []))) (hG : ∀ i H, i ≤ n → Pv i H → G H)
    (hs : ∀ i x H H', i < n → Pv i H → Y i H x H' → g x (wipe σ vs) H' fun σ2 H2 => wipe σ2 vs = wipe σ vs ∧ tt σ2 H2 fun b H3 =>
      if b = true then tk σ2 H3 fun y H4 => tv σ2 H4 fun z H5 => ∃ kvs k, y = kV k ∧ H5 D = some (.dK kvs) ∧ kvs.length < sizeLine ∧ Pv (i + 1) (upd H5 D (.dK (putK kvs k z))) else Pv (i + 1) H3) (hd : ∀ H, Pv n H → Qd H) :
    ∃ W : Nat → Nat → Hp → Prop, (∃ m, W 0 m (upd H1 D (.dK []))) ∧ ∀ i m H, W i m H →
      (J.stop i H ∧ Qd H) ∨ (J.go i H ∧ ∃ Nx : Hp → Prop, (∀ H', Nx H' → ∃ m', m' < m ∧ W (i + 1) m' H') ∧ ∀ x H', J.yld i H x H' → g x (wipe σ vs) H' fun σ2 H2 => wipe σ2 vs = wipe σ vs ∧ tt σ2 H2 fun b H3 =>
        if b = true then tk σ2 H3 fun y H4 => tv σ2 H4 fun z H5 => ∃ kvs k, y = kV k ∧ H5 D = some (.dK kvs) ∧ kvs.length < sizeLine ∧ Nx (upd H5 D (.dK (putK kvs k z))) else Nx H3) := by
  refine ⟨fun i m H => m = n - i ∧ i ≤ n ∧ Pv i H, ⟨n, by simp, Nat.zero_le _, h0⟩, ?_⟩
  rintro i m H ⟨rfl, hi, p⟩
  have q := hG i H hi p
  by_cases hlt : i < n
  · exact .inr ⟨w.goes i H hlt q, Pv (i + 1), fun H' p' => ⟨n - (i + 1), by omega, rfl, hlt, p'⟩, fun x H' y => hs i x H H' hlt p (w.yields i H x H' hlt q y)⟩
  · have e : i = n := by omega
    subst e
    exact .inl ⟨w.stops H q, hd H p⟩
/-- the dict of the first n turns -/
def madeK (n : Nat) (k : Nat → Key) (v : Nat → V) : List (Key × V) := (List.range n).foldl (fun acc i => putK acc (k i) (v i)) []
theorem madeK_succ {n : Nat} {k : Nat → Key} {v : Nat → V} : madeK (n + 1) k v = putK (madeK n k v) (k n) (v n) := by
  unfold madeK
  rw [List.range_succ, List.foldl_append]
  rfl
theorem madeK_len {n : Nat} {k : Nat → Key} {v : Nat → V} : (madeK n k v).length ≤ n := by
  induction n with
  | zero => exact Nat.le_refl _
  | succ n ih =>
    rw [madeK_succ]
    have := length_putK (madeK n k v) (k n) (v n)
    omega
def Dw (H : Hp) (k : Nat → Key) (v : Nat → V) (Dl : Addr) (i : Nat) (H' : Hp) : Prop := H Dl = none ∧ Ex H H' ∧ H' Dl = some (.dK (madeK i k v))
theorem dw_turn {H' : Hp} {k : Nat → Key} {v : Nat → V} {Dl : Addr} {i : Nat} {σ2 : L2.St} {tt : TT} (p : Dw H k v Dl i H') (hi : i < 50000) (ht : EvT tt σ2 H true) (hk : Ev tk σ2 H (kV (k i))) (he : Ev tv σ2 H (v i)) :
    tt σ2 H' fun b H3 => if b = true then tk σ2 H3 fun y H4 => tv σ2 H4 fun z H5 => ∃ kvs k0, y = kV k0 ∧ H5 Dl = some (.dK kvs) ∧ kvs.length < sizeLine ∧ Dw H k v Dl (i + 1) (upd H5 Dl (.dK (putK kvs k0 z))) else Dw H k v Dl (i + 1) H3 := by
  obtain ⟨p1, p2, p3⟩ := p
  refine ht H' p2 _ fun H3 e3 => ?_
  rw [if_pos rfl]
  refine hk H3 (p2.trans e3) _ fun H4 e4 => he H4 ((p2.trans e3).trans e4) _ fun H5 e5 => ⟨madeK i k v, k i, rfl, e5 Dl _ (e4 Dl _ (e3 Dl _ p3)), sz_lt (by have := madeK_len (n := i) (k := k) (v := v); omega), p1, Ex.mut (((p2.trans e3).trans e4).trans e5) p1, ?_⟩
  rw [madeK_succ]
  exact upd_same
theorem ed_dcSq {tt : TT} (k : Nat → Key) (v : Nat → V) (h : Ev tl σ H (.ref a)) (hx : Sq K H a xs) (hz : xs.length ≤ 40000) (hw : ∀ x, wipe ((wipe σ vs).set j (some x)) vs = wipe σ vs)
    (ht : ∀ (i : Nat) (x : V) H1, Ex H H1 → xs[i]? = some x → EvT tt ((wipe σ vs).set j (some x)) H1 true) (hk : ∀ (i : Nat) (x : V) H1, Ex H H1 → xs[i]? = some x → Ev tk ((wipe σ vs).set j (some x)) H1 (kV (k i)))
    (he : ∀ (i : Nat) (x : V) H1, Ex H H1 → xs[i]? = some x → Ev tv ((wipe σ vs).set j (some x)) H1 (v i)) : EvD (tDc (iSeq K tl) (gName j) tt tk tv vs) σ H (madeK xs.length k v) := fun H0 e Q q =>
  iseq_go (h.mono e) (ex_sq e hx) fun J G H1 e1 g1 hg w Dl hD =>
    dc_it w (Dw H1 k v Dl) ⟨hD, Ex.new hD, upd_same⟩ (fun i H' _ p => hg H' (e1.trans p.2.1)) (fun i x H2 H3 hi p y => by
      obtain ⟨rfl, hx⟩ := y
      exact ⟨hw x, dw_turn p (by omega) (ht i x H1 (e.trans e1) hx) (hk i x H1 (e.trans e1) hx) (he i x H1 (e.trans e1) hx)⟩)
    (fun H' p => q Dl H' (fresh_back e1 p.1) (e1.trans p.2.1) p.2.2)
theorem s_asgD {i : Nat} {kvs : List (Key × V)} (h : EvD te σ H kvs) (k : ∀ p H1, H p = none → Ex H H1 → H1 p = some (.dK kvs) → D.nx (σ.set i (some (.ref p))) H1) : tAsg te (gName i) D σ H := h H (Ex.refl H) _ fun p H1 hp e h1 => k p H1 hp e h1
theorem q_asgD {i : Nat} {kvs : List (Key × V)} (h : EvD te σ H kvs) (k : ∀ p H1, H p = none → Ex H H1 → H1 p = some (.dK kvs) → tz D (σ.set i (some (.ref p))) H1) : tSeq (tAsg te (gName i)) tz D σ H := s_asgD (D := { D with nx := tz D }) h k
theorem s_retD {kvs : List (Key × V)} (h : EvD te σ H kvs) (k : ∀ p H1, H p = none → Ex H H1 → H1 p = some (.dK kvs) → D.rt (.ref p) H1) : tRet te D σ H := h H (Ex.refl H) _ k
theorem ed_new : EvD tDNewK σ H [] := fun H1 _ Q q p hp => q p _ hp (Ex.new hp) upd_same
end
end KSq
-- KTupD
/-! tuple(d), d a dict: its keys -/
namespace KTupD
open PySem PySem.Spec PyProof.Rows L2 Evl
section
variable {pr : Program} {w : World} {A : Around} {E : Value → Shared → Prop} {s : Shared} {T : String} {r d : Addr} {n : Nat} {Pn : Nat → Value → Prop} {OK : Heap → Prop}
theorem tup_new {Q₁ : Value → Shared → Prop} (S : PySem.W.KdlSrc pr w T r d n Pn OK) (hh : A.handled = none) (hok : OK s.heap) (hn : n ≤ sizeLine)
    (k : ∀ (g : Heap) (tk : Nat) (acc : Array Value), (∀ b o, s.heap.get? b = some o → g.get? b = some o) → ItemsOf Pn acc n → Q₁ (.ref g.objs.size) { s with heap := g.push { cls := .type "tuple", data := .seq acc }, toks := tk }) :
    codeAny (model pr w) A (.call (.builtin "tuple.__new__") ⟨[.type "tuple", .ref r], []⟩) (wants Q₁ E) s := by
  refine codeAny_of_tree ?_
  show wpAny _ A.in1 (checkBuiltinCall "tuple.__new__" ⟨[.type "tuple", .ref r], []⟩ >>= fun _ => again (.builtin "tuple.__new__" ⟨[.type "tuple", .ref r], []⟩)) _ _ s
  refine wpAny_bind (wpAny_of_eq (F.newCall_tuple_1 _) (wpAny_pure ⟨plainId_quiet F.plain_tuple_new _, codeAny_builtin F.entry_tuple_new ?_⟩))
  rw [Around.under_plainId F.plain_tuple_new _]
  have z1 := sub_tuple_self
  have z2 := init_tuple_lookup
  have z3 := madeHere_tuple
  have z4 := S.type s hok
  have z5 : (Value.type T == Value.type "tuple") = false := S.notTuple
  wp_walk using wpAny_typeOf z4, PySem.W.kdu_collect (A := A.in1) S hh hok hn
  intro g tk acc hk hacc
  show wpAny _ A.in1 (Builtin.Tuple.tupleExact acc.toList.toArray >>= ret) _ _ _
  unfold Builtin.Tuple.tupleExact
  have ea : acc.toList.toArray = acc := Array.toArray_toList
  refine wpAny_bind (wpAny_newObj_type ?_ (show acc.toList.toArray.size ≤ sizeLine by rw [ea, hacc.1]; exact hn))
  refine wpAny_pure ?_
  rw [ea]
  exact k g tk acc hk hacc
theorem tup_call {Q : Value → Shared → Prop} (S : PySem.W.KdlSrc pr w T r d n Pn OK) (hh : A.handled = none) (hok : OK s.heap) (hn : n ≤ sizeLine)
    (k : ∀ (g : Heap) (tk : Nat) (acc : Array Value), (∀ b o, s.heap.get? b = some o → g.get? b = some o) → ItemsOf Pn acc n → Q (.ref g.objs.size) { s with heap := g.push { cls := .type "tuple", data := .seq acc }, toks := tk }) :
    wpAny (model pr w) A (call (.type "tuple") [.ref r]) Q E s := by
  refine callType_codes (Q₁ := fun u s1 => s1.TypeIs u "tuple" ∧ Q u s1) F.called_tuple (F.typeCall_tuple_1 _) F.entry_object_init
    (tup_new S hh hok hn fun g tk acc hk hacc => ⟨⟨_, Heap.get?_push_size _ rfl, rfl⟩, k g tk acc hk hacc⟩) fun u s1 h1 => ?_
  exact ⟨h1.1, F.args_object_init_2 u _, object_init_meets F.called_tuple.init.lookup F.called_tuple.made (by decide) pr w A.in1 _ s1 ⟨h1.1, rfl, h1.2⟩⟩
end
def rTupD : List V → Hp → VK → Prop := fun xs H Q => ∃ (a : Addr) (kvs : List (Key × V)), xs = [.ref a] ∧ Rd H a (.dK kvs) ∧ ∀ p, H p = none → Q (.ref p) (upd H p (.tup (kvs.map fun kv => kV kv.1)))
theorem call_tupD {X : Cx} (hcalm : X.calm = true) : CallR X (.type "tuple") rTupD := by
  intro pins s σ H xs us Q I r q
  obtain ⟨a, kvs, ex, hd, q⟩ := q
  subst ex
  obtain ⟨u, eu, rx⟩ := vals1 r
  subst eu
  cases rx
  obtain ⟨z, lo, vs, rel, dd⟩ := dk_rd I.hok hd
  obtain ⟨ep, hat⟩ := dd.dictAt
  have ek : (kvs.map fun kv => kV kv.1) = vs.map fun p => kV p.1 := by
    have e := congrArg (List.map kV) rel.keys
    rw [List.map_map, List.map_map] at e
    exact e
  have el : (vs.map fun p => kV p.1).length = vs.length := List.length_map _
  refine tup_call (PySem.W.kdl_dict (knd := mixKind X.prog X.w) (kvs := vs) (ep := ep) lo) (I.ok.hd hcalm) hat (by rw [← rel.length]; exact z) fun g tk acc hk hacc => ?_
  have hv : Vals (vs.map fun p => kV p.1) acc.toList := keys_at (by rw [Array.length_toList]; exact hacc.1) fun j v e => hacc.2 j v (by rw [← Array.getElem?_toList]; exact e)
  have I1 : Inv X pins σ H { s with heap := g, toks := tk } := I.kept (t' := tk) hk
  have I2 : Inv X pins σ (upd H g.objs.size (.tup (kvs.map fun kv => kV kv.1))) { s with heap := g.push { cls := .type "tuple", data := .seq acc }, toks := tk } :=
    I1.laid (t' := tk) (fun b o e => Heap.get?_push_of_some _ e) (Nat.le_refl _) (show ObjOk X.prog X.w _ _ _ (.tup (kvs.map fun kv => kV kv.1)) from ⟨by rw [List.length_map]; exact z, acc.toList, by rw [ek]; exact hv, by rw [Array.toArray_toList]; exact IsTup.new _ _⟩)
  exact ⟨.ref g.objs.size, _, I2, rfl, q _ (I1.hok.fresh (Nat.le_refl _))⟩
end KTupD
-- KEnumT
/-! enumerate(t), t a list or a tuple -/
namespace KEnumT
open PySem PySem.Spec PyProof.Rows L2 Evl KSq PySem.W
/-- enumerate(v): the tree of its making, v told by how its iterator begins -/
theorem enum_made {v : Value} {o : Obj} {Hh : Heap → Prop} (B : Begins v o Hh) :
    Meets (Builtin.«enumerate.__new__» ⟨[.type "enumerate", v], []⟩) (fun _ R s => Hh s.heap ∧
      R (.ok (.ret (.ref (s.heap.push o).objs.size))) { s with heap := (s.heap.push o).push { cls := .type "enumerate", data := .fields #[.none, .bool false, .ref s.heap.objs.size, rawInt 0, .none, .none] } }) :=
  .of_wp fun pr w A R s y => by
    obtain ⟨hp, gs, dr, tk, os⟩ := s
    obtain ⟨y1, y2⟩ := y
    have z1 := PySem.sub_enumerate
    have z2 : ∀ {A' : Around} {E : Value → Shared → Prop} {Q : Value → Shared → Prop}, Q (.ref hp.objs.size) ⟨hp.push o, gs, dr, tk, os⟩ → wpAny (model pr w) A' (pyIter v) Q E ⟨hp, gs, dr, tk, os⟩ :=
      fun z => B.iter pr w _ _ ⟨hp, gs, dr, tk, os⟩ _ y1 z
    wp_walk using z2
    refine wpAny_stack_any fun _ => wpAny_pure ?_
    split
    · rename_i c _ _ _ _ _
      cases (c == Value.type "enumerate") <;> (wp_walk using z2; exact ⟨_, rfl, y2⟩)
    · wp_walk using z2
      exact ⟨_, rfl, y2⟩
theorem enum_call {pr : Program} {w : World} {A : Around} {E : Value → Shared → Prop} {s : Shared} {v : Value} {o : Obj} {Hh : Heap → Prop} {Q : Value → Shared → Prop} (B : Begins v o Hh) (h1 : Hh s.heap)
    (k : ∀ g, IsEnum g (s.heap.objs.size + 1) s.heap.objs.size 0 .none → g.get? s.heap.objs.size = some o → (∀ b u, s.heap.get? b = some u → g.get? b = some u) → Q (.ref (s.heap.objs.size + 1)) { s with heap := g }) :
    wpAny (model pr w) A (call (.type "enumerate") [v]) Q E s := by
  refine callType_new F.called_enumerate (by decide) (F.typeCall_enumerate_1 _) (F.newCall_enumerate_1 _) (fun u => F.args_object_init_2 u _) F.entry_enumerate_new (enum_made B) ⟨h1, ?_⟩
  have hz : (s.heap.push o).objs.size = s.heap.objs.size + 1 := Heap.size_push ..
  show _ ∧ _
  rw [hz]
  have he : IsEnum ((s.heap.push o).push { cls := .type "enumerate", data := .fields #[.none, .bool false, .ref s.heap.objs.size, rawInt 0, .none, .none] }) (s.heap.objs.size + 1) s.heap.objs.size 0 .none := by
    have z := Heap.get?_push_size (s.heap.push o) (o := { cls := .type "enumerate", data := .fields #[.none, .bool false, .ref s.heap.objs.size, rawInt 0, .none, .none] }) rfl
    rwa [hz] at z
  exact ⟨⟨_, he, rfl⟩, k _ he (Heap.get?_push_of_some _ (Heap.get?_push_size _ B.free)) fun b u x => Heap.get?_push_of_some _ (Heap.get?_push_of_some _ x)⟩
/-- the tuple at a, each item in a new pair -/
def Iet (K : PySem.W.Frag) (a : Addr) : It :=
  ⟨fun i H => ∃ (xs : List V) (x : V), SqT K H a xs ∧ xs[i]? = some x, fun i H v H' => ∃ T x, v = .ref T ∧ H T = none ∧ H' = upd H T (.tup [.int (i : Nat), x]) ∧ ∀ xs, SqT K H a xs → xs[i]? = some x, fun i H => ∃ xs : List V, SqT K H a xs ∧ xs.length = i⟩
theorem turn_enumT {P : Program} {w : World} {K : PySem.W.Frag} {elts : List Expr} {kk : Nat} {tpos : Pos} (a e it : Addr) (hat : a ≠ it) (hae : a ≠ e) :
    Turn P w K (.Tuple elts kk tpos) (Iet K a) [e, it] e (fun i h => (∃ old, IsEnum h e it ((i : Nat) : Int) old) ∧ h.IsTupleIter it a i ∧ e ≠ it) where
  mem := by simp
  obj := fun i h st b hb => by
    obtain ⟨⟨old, he⟩, ⟨o, ho, hc, hd⟩, _⟩ := st
    rcases List.mem_cons.mp hb with z | z
    · rw [z]
      exact ⟨_, he, fun v q => nomatch q⟩
    · rw [List.mem_singleton.mp z]
      exact ⟨o, ho, fun v q => by rw [hd] at q; cases q⟩
  keep := fun i h h' st k => ⟨st.1.imp fun old he => k e (by simp) _ he, st.2.1.at fun o q => k it (by simp) o q, st.2.2⟩
  item := by
    intro X hP hw hK hc i pins s σ H E I hf st hg
    subst hP hw hK
    obtain ⟨⟨old, he⟩, hit, hne⟩ := st
    obtain ⟨xs, x, hq, hx⟩ := hg
    obtain ⟨its, rv, p, hz⟩ := I.tuple hq
    obtain ⟨u, hu, ru⟩ := rv.get hx
    have hel : e < s.heap.objs.size := Heap.lt_size he
    have hil : it < s.heap.objs.size := by
      obtain ⟨_, q, _⟩ := hit
      exact Heap.lt_size q
    have hlt : i < its.toArray.size := by
      have := (List.getElem?_eq_some_iff.mp hu).1
      simpa using this
    refine wpAny_pyNext_enum_itemD (Draws.tuple (prog := X.prog) (w := X.w) (A := X.A.in1) (I.ok.hd hc) it a hat its.toArray) he ⟨hit, p⟩ hlt hne (by simp [hne, Ne.symm hae]) fun y h' tk hy ho hst hT hsz hk => ?_
    have hyu : y = u := by
      have hy : its.toArray[i]? = some y := hy
      rw [List.getElem?_toArray, hu] at hy
      exact (Option.some.inj hy).symm
    subst hyu
    refine ⟨_, rfl, wpAny_letOwnedTupleGo_enum (s := { s with heap := h', toks := tk + 1 }) ho fun h2 he2 sb => ?_⟩
    have hT2 : h2.get? s.heap.objs.size = some { cls := .type "tuple", data := .seq #[.int i tk, y] } := (sb.2 _ (Nat.ne_of_gt hel)).trans hT
    have fresh : ObjOk X.prog X.w (upd H s.heap.objs.size (.tup [.int (i : Nat), x])) h2 s.heap.objs.size (.tup [.int (i : Nat), x]) :=
      ⟨by show 2 ≤ sizeLine; decide, [.int i tk, y], .cons ⟨_, rfl⟩ (.cons ru .nil), ⟨_, hT2, rfl, _, rfl⟩⟩
    have I1 : Inv X pins σ (upd H s.heap.objs.size (.tup [.int (i : Nat), x])) { s with heap := h2, toks := tk + 1 } :=
      I.turnedNew (ch := [e, it]) (fun b u hb q => by
        have b1 : b ≠ e := fun z => hb (by simp [z])
        have b2 : b ≠ it := fun z => hb (by simp [z])
        exact (sb.2 b b1).trans (hk b u b1 b2 q)) hf (Nat.le_refl _) fresh
    refine ⟨.ref s.heap.objs.size, _, I1, rfl, ⟨_, x, rfl, I.hok.fresh (Nat.le_refl _), rfl, fun ys hy => by rw [I.tuple_inj hy hq]; exact hx⟩, ⟨⟨y, ?_⟩, hst.1.at fun u q => (sb.2 it (Ne.symm hne)).trans q, hne⟩, fun b hb => ?_⟩
    · rw [show ((i + 1 : Nat) : Int) = (i : Int) + 1 by omega]
      exact he2
    · have hb2 : b < s.heap.objs.size := by
        rcases List.mem_cons.mp hb with z | z
        · rw [z]
          exact hel
        · rw [List.mem_singleton.mp z]
          exact hil
      rw [upd_ne (Nat.ne_of_lt hb2)]
      exact (hf b hb).1
  done := by
    intro X hP hw hK hc i pins s σ H E I hf st hg
    subst hP hw hK
    obtain ⟨⟨old, he⟩, hit, hne⟩ := st
    obtain ⟨xs, hq, hx⟩ := hg
    obtain ⟨its, rv, p, hz⟩ := I.tuple hq
    obtain ⟨f0, f1, f2, f3, f4, f5⟩ := hf it (by simp)
    have hl := rv.length
    have hn : its.toArray.size = i := by
      rw [List.size_toArray]
      omega
    subst hn
    exact wpAny_pyNext_enum_endD (Draws.tuple (prog := X.prog) (w := X.w) (A := X.A.in1) (I.ok.hd hc) it a hat its.toArray) he ⟨hit, p⟩ fun g eb => ⟨rfl, I.turned (t' := s.toks) (fun b u hb q => eb b u hb q) f0 f1 f3 f4 f5⟩
  self := fun A i s Q E st h => let ⟨⟨_, he⟩, _⟩ := st; wpAny_pyIter_enum he h
def iEnumT (K : PySem.W.Frag) (ta : TA) : TI := fun σ H R => ta σ H fun vs H1 => ∃ a xs, vs = [.ref a] ∧ SqT K H1 a xs ∧ R (Iet K a) H1
theorem pi_enumT {X : Cx} {e : Expr} {ta : TA} {p pos tpos : Pos} {elts : List Expr} {kk : Nat} (hg : Gl X "enumerate") (hm : X.mg "enumerate" = none) (ha : PA X [e] ta) (hs : starEach [e] X.env = [(false, eval e X.env)] := by rfl) :
    PI X (.Tuple elts kk tpos) (.Call (.Name "enumerate" p) [e] [] pos) (iEnumT X.K ta) := by
  refine ⟨fun pins s σ H R I h => Call_ (ld_blt I hg hm boot_enumerate (PyProof.Rows.callWith_type1 (thn (ha.run pos pins s σ H _ I h) fun us s1 ⟨vs, H1, I1, r1, q1⟩ => ?_) hs rfl))⟩
  obtain ⟨a, xs, ex, hq, q⟩ := q1
  subst ex
  obtain rfl := Vals.ref1 r1
  obtain ⟨its, rv, p2, hz⟩ := I1.tuple hq
  refine enum_call (begins_tuple a its.toArray) p2 fun g he hit hk => wpAny_pyIter_enum he ?_
  have I2 : Inv X pins σ H1 { s1 with heap := g } := I1.kept (t' := s1.toks) hk
  have hlt : a < s1.heap.objs.size := by
    obtain ⟨o, ho, _⟩ := p2
    exact Heap.lt_size ho
  refine ⟨s1.heap.objs.size + 1, [s1.heap.objs.size + 1, s1.heap.objs.size], _, _, H1, rfl, I2, turn_enumT a (s1.heap.objs.size + 1) s1.heap.objs.size (Nat.ne_of_lt hlt) (Nat.ne_of_lt (Nat.lt_succ_of_lt hlt)), ⟨⟨.none, he⟩, ⟨_, hit, rfl, rfl⟩, Nat.succ_ne_self _⟩, fun b hb => ?_, q⟩
  have hle : s1.heap.objs.size ≤ b := by
    rcases List.mem_cons.mp hb with z | z
    · rw [z]
      exact Nat.le_add_right _ _
    · rw [List.mem_singleton.mp z]
      exact Nat.le_refl _
  exact I1.fpOk hle (I1.hok.fresh hle)
theorem walk_enumT {K : PySem.W.Frag} {a : Addr} {xs : List V} : Walk (Iet K a) xs.length (fun H => SqT K H a xs) (YPair (fun i => some (.int (i : Nat))) (fun i => xs[i]?)) :=
  ⟨fun i _ hi q => ⟨xs, xs[i], q, by simp [hi]⟩, fun _ q => ⟨xs, q, rfl⟩, fun i H v H' _ q ⟨T, x, h1, h2, h3, h4⟩ => ⟨T, .int (i : Nat), x, h1, h2, h3, rfl, h4 xs q⟩⟩
/-- a list or a tuple -/
def iEnumS (K : PySem.W.Frag) (ta : TA) : TI := fun σ H R => iEnum K ta σ H R ∨ iEnumT K ta σ H R
theorem pi_enumS {X : Cx} {e : Expr} {ta : TA} {p pos tpos : Pos} {elts : List Expr} {kk : Nat} (hg : Gl X "enumerate") (hm : X.mg "enumerate" = none) (ha : PA X [e] ta) (hs : starEach [e] X.env = [(false, eval e X.env)] := by rfl) :
    PI X (.Tuple elts kk tpos) (.Call (.Name "enumerate" p) [e] [] pos) (iEnumS X.K ta) := ⟨fun pins s σ H R I h => h.elim ((pi_enum hg hm ha hs).run pins s σ H R I) ((pi_enumT hg hm ha hs).run pins s σ H R I)⟩
theorem ienum_go {K : PySem.W.Frag} {tl : TE} {σ : L2.St} {H : Hp} {a : Addr} {xs : List V} {R : It → Hp → Prop} (h : Ev tl σ H (.ref a)) (hx : Sq K H a xs)
    (k : ∀ (J : It) (G : Hp → Prop) H1, Ex H H1 → (∀ H2, Ex H H2 → G H2) → Walk J xs.length G (YPair (fun i => some (.int (i : Nat))) (fun i => xs[i]?)) → R J H1) : iEnumS K (tCons tl tNil) σ H R := by
  rcases hx with hx | hx
  · exact .inl (h H (Ex.refl H) _ fun H1 e => ⟨a, xs, rfl, ex_l e hx, k _ (fun H => SqL K H a xs) H1 e (fun H2 e2 => ex_l e2 hx) walk_enum⟩)
  · exact .inr (h H (Ex.refl H) _ fun H1 e => ⟨a, xs, rfl, ex_t e hx, k _ (fun H => SqT K H a xs) H1 e (fun H2 e2 => ex_t e2 hx) walk_enumT⟩)
end KEnumT
-- KDd
/-! what is unlike, in the order of first appearance; a dict used as a set -/
namespace KDd
open PySem PySem.Spec PyProof.Rows L2 Evl KSq
section
variable {α : Type} [DecidableEq α]
def addS (ws : List α) (x : α) : List α := if x ∈ ws then ws else ws ++ [x]
def dd (ss : List α) : List α := ss.foldl addS []
theorem addS_mem {ws : List α} {x y : α} : y ∈ addS ws x ↔ y ∈ ws ∨ y = x := by
  unfold addS
  split
  · rename_i h
    exact ⟨.inl, fun z => z.elim id fun z => z ▸ h⟩
  · simp
theorem addS_nodup {ws : List α} {x : α} (h : ws.Nodup) : (addS ws x).Nodup := by
  unfold addS
  split
  · exact h
  · rename_i hx
    rw [List.nodup_append]
    exact ⟨h, List.pairwise_singleton .., fun a ha b hb z => hx (by rw [List.mem_singleton.mp hb] at z; rwa [← z])⟩
theorem addS_len {ws : List α} {x : α} : (addS ws x).length ≤ ws.length + 1 := by
  unfold addS
  split
  · omega
  · rw [List.length_append]
    exact Nat.le_refl _
theorem fold_mem {ss : List α} : ∀ {ws : List α} {y : α}, y ∈ ss.foldl addS ws ↔ y ∈ ws ∨ y ∈ ss := by
  induction ss with
  | nil => simp
  | cons x r ih =>
    intro ws y
    rw [List.foldl_cons, ih, addS_mem, List.mem_cons, or_assoc]
theorem fold_nodup {ss : List α} : ∀ {ws : List α}, ws.Nodup → (ss.foldl addS ws).Nodup := by
  induction ss with
  | nil => exact fun h => h
  | cons x r ih => exact fun h => ih (addS_nodup h)
theorem fold_len {ss : List α} : ∀ {ws : List α}, (ss.foldl addS ws).length ≤ ws.length + ss.length := by
  induction ss with
  | nil => exact Nat.le_refl _
  | cons x r ih =>
    intro ws
    have h1 := ih (ws := addS ws x)
    have h2 := addS_len (ws := ws) (x := x)
    rw [List.foldl_cons, List.length_cons]
    omega
theorem dd_mem {ss : List α} {y : α} : y ∈ dd ss ↔ y ∈ ss := by
  unfold dd
  rw [fold_mem]
  simp
theorem dd_nodup {ss : List α} : (dd ss).Nodup := fold_nodup List.nodup_nil
theorem dd_len {ss : List α} : (dd ss).length ≤ ss.length := by
  have := fold_len (ss := ss) (ws := [])
  simpa [dd] using this
theorem fold_in {ss : List α} : ∀ {ws : List α}, (∀ y ∈ ss, y ∈ ws) → ss.foldl addS ws = ws := by
  induction ss with
  | nil => exact fun _ => rfl
  | cons x r ih =>
    intro ws h
    have e : addS ws x = ws := if_pos (h x List.mem_cons_self)
    rw [List.foldl_cons, e]
    exact ih fun y hy => h y (List.mem_cons_of_mem _ hy)
theorem dd_snoc {ss : List α} {x : α} : dd (ss ++ [x]) = addS (dd ss) x := by
  unfold dd
  rw [List.foldl_append]
  rfl
theorem dd_take {ss : List α} {i : Nat} {x : α} (h : ss[i]? = some x) : dd (ss.take (i + 1)) = addS (dd (ss.take i)) x := by
  rw [List.take_add_one, h, ← dd_snoc]
  rfl
theorem dd_self : ∀ {ss : List α}, ss.Nodup → dd ss = ss := by
  intro ss h
  have z : ∀ (r ws : List α), (ws ++ r).Nodup → r.foldl addS ws = ws ++ r := by
    intro r
    induction r with
    | nil => intro ws _; simp
    | cons x r ih =>
      intro ws hn
      have hx : x ∉ ws := fun z => by
        rw [List.nodup_append] at hn
        exact hn.2.2 x z x List.mem_cons_self rfl
      have e : addS ws x = ws ++ [x] := if_neg hx
      rw [List.foldl_cons, e, ih (ws ++ [x]) (by simpa using hn)]
      simp
  simpa [dd] using z ss [] (by simpa using h)
theorem dd_more {us ss : List α} (h : us.Nodup) (hs : ∀ y ∈ ss, y ∈ us) : dd (us ++ ss) = us := by
  have e := dd_self h
  unfold dd at e ⊢
  rw [List.foldl_append, e]
  exact fold_in hs
end
/-- a set kept as a dict -/
def tkv (ws : List Str) : List (Key × V) := ws.map fun x => (Sum.inr x, V.bl true)
theorem tkv_len (ws : List Str) : (tkv ws).length = ws.length := List.length_map _
theorem tkv_keys (ws : List Str) : ((tkv ws).map fun kv => kV kv.1) = ws.map V.str := by
  unfold tkv
  rw [List.map_map]
  rfl
theorem valV_tkv (ws : List Str) (x : Str) : valV (tkv ws) (Sum.inr x) = if x ∈ ws then some (.bl true) else none := by
  induction ws with
  | nil => rfl
  | cons y r ih =>
    by_cases e : y = x
    · rw [if_pos (e ▸ List.mem_cons_self)]
      exact valV_pos (p := (Sum.inr y, V.bl true)) (show (Sum.inr y : Key) = Sum.inr x by rw [e])
    · have h := valV_neg (p := ((Sum.inr y : Key), V.bl true)) (r := tkv r) (k := Sum.inr x) (fun z => e (Sum.inr.inj z))
      show valV ((Sum.inr y, V.bl true) :: tkv r) (Sum.inr x) = _
      rw [h, ih]
      by_cases hx : x ∈ r
      · rw [if_pos hx, if_pos (List.mem_cons_of_mem _ hx)]
      · rw [if_neg hx, if_neg fun z => (List.mem_cons.mp z).elim (fun z => e z.symm) hx]
theorem put_tkv (ws : List Str) (x : Str) : putK (tkv ws) (Sum.inr x) (.bl true) = tkv (addS ws x) := by
  by_cases h : x ∈ ws
  · have ha : ((tkv ws).any fun kv => decide (kv.1 = (Sum.inr x : Key))) = true := by
      rw [valV_any, valV_tkv, if_pos h]
      rfl
    unfold putK addS
    rw [if_pos ha, if_pos h]
    unfold tkv
    rw [List.map_map]
    refine List.map_congr_left fun y _ => ?_
    show (if (Sum.inr y : Key) = Sum.inr x then (Sum.inr y, V.bl true) else (Sum.inr y, V.bl true)) = _
    split <;> rfl
  · rw [putK_new _ (by rw [valV_tkv, if_neg h])]
    unfold addS
    rw [if_neg h]
    unfold tkv
    rw [List.map_append]
    rfl
theorem made_tkv {ss : List Str} : ∀ n, n ≤ ss.length → madeK n (fun i => Sum.inr (ss.getD i Str.empty)) (fun _ => V.bl true) = tkv (dd (ss.take n)) := by
  intro n
  induction n with
  | zero => exact fun _ => rfl
  | succ n ih =>
    intro h
    have hx : ss[n]? = some (ss.getD n Str.empty) := by
      rw [List.getD_eq_getElem?_getD, List.getElem?_eq_getElem (by omega)]
      rfl
    rw [madeK_succ, ih (by omega), put_tkv, dd_take hx]
/-- x in a list of texts -/
theorem inV_txt {x : Str} {ws : List Str} : inV (.str x) (ws.map V.str) = decide (x ∈ ws) := by
  unfold inV
  rw [List.any_map]
  induction ws with
  | nil => rfl
  | cons y r ih =>
    rw [List.any_cons, ih]
    by_cases e : y = x
    · subst e
      have : eqV (.str y) (.str y) = true := by simp [eqV]
      simp [this]
    · have e2 : ¬ x = y := fun z => e z.symm
      have : eqV (.str y) (.str x) = false := by simp [eqV, e]
      simp [this, e2]
theorem flat_txt (ws : List Str) : (ws.map V.str).all flatV = true := by
  rw [List.all_map, List.all_eq_true]
  intro x _
  rfl
end KDd
-- KDc
/-! y = {k: v for x in xs} -/
namespace KDc
open PySem PySem.Spec PyProof.Rows L2
section
variable {X : Cx}
theorem ps_setDc {i : Nat} {y : Str} {py : Pos} {kx vx tg iter : Expr} {ifs : List Expr} {scope : Scope} {own : List (Str × Nat)} {pos spos : Pos} {wi : TI} {g : TG} {tt : TT} {tk tv : TE} (hc : X.calm = true) (hN : X.N.Nodup) (hy : X.N[i]? = some y) (hyl : X.env.scope.names.lookup y = some .local)
    (hsw : swapsWith (.DictComp kx vx [⟨tg, iter, ifs, 0⟩] scope pos) (some (.Name y py)) spos.line X.env = pure true) (hi : PI X tg iter wi) (ok : BlkOk X.N X.env.scope scope own)
    (hg : ∀ (s : Shared) (H : Hp) (L : Addr) (cl : List (Str × Addr)) (fp : List Addr), PG (X.blk s H scope (compEnvC scope cl L X.env) fp) tg g) (ht : ∀ (s : Shared) (H : Hp) (L : Addr) (cl : List (Str × Addr)) (fp : List Addr), PTs (X.blk s H scope (compEnvC scope cl L X.env) fp) ifs tt)
    (hk : ∀ (s : Shared) (H : Hp) (L : Addr) (cl : List (Str × Addr)) (fp : List Addr), PE (X.blk s H scope (compEnvC scope cl L X.env) fp) kx tk)
    (he : ∀ (s : Shared) (H : Hp) (L : Addr) (cl : List (Str × Addr)) (fp : List Addr), PE (X.blk s H scope (compEnvC scope cl L X.env) fp) vx tv) (hs : ∀ x, foldedSetIterable iter X.env x = pure x := by intro _; rfl) :
    PS X (.Assign [.Name y py] (.DictComp kx vx [⟨tg, iter, ifs, 0⟩] scope pos) spos) (tAsg (tDc wi g tt tk tv (own.map (·.2))) (gName i)) := by
  refine ⟨fun pins s σ H D I h => ?_⟩
  rw [exec_Assign_Name_used _ _ _ _ hsw]
  refine wpAny_bind (wpAny_standAt (wpAny_bind ?_))
  show wpAny _ X.A (comprehension (.DictComp kx vx [⟨tg, iter, ifs, 0⟩] scope pos) scope X.env (firstIterPos [⟨tg, iter, ifs, 0⟩] pos) newDict false (eval iter X.env) (some (assign (.Name y py) X.env)) >>= fun _ => _) _ _ s
  have h1 : tDc wi g tt tk tv (own.map (·.2)) σ H (fun x H1 => gName i x σ H1 D.nx) := h
  refine wpAny_bind (thn (dc_core (Qf := fun _ s' => SP X pins D .next s') hc hN I hi ok hg ht hk he hs h1 fun L c s' m H' I' q hn f => ?_) fun _ s' hq => wpAny_pure (wpAny_pure hq))
  show wpAny _ _ (assign (.Name y py) X.env (.ref L)) _ _ _
  refine wpAny_assign_Name (store_ok2 (v := V.ref L) I' hN hy (.inl hyl) rfl (fun s2 I2 ⟨a, sb, ha⟩ => ?_) (.inr hyl))
  obtain ⟨f0, f1, f2, f3, f4, f5⟩ := f
  have hne : c ≠ a := ha.elim (fun z => by rw [z]; exact f1) fun z e => f4 y a z e.symm
  exact ⟨m, hn.sameBut sb hne, fun h3 sb3 => ⟨_, H', I2.turned (t' := s2.toks) (fun b o hb e => (sb3.2 b hb).trans e) f0 f1 f3 f4 f5, q⟩⟩
theorem sw_dict {kx vx : Expr} {gs : List Comprehension} {scope : Scope} {pos py : Pos} {y : Str} {l : Nat} {env : Env} (hk : env.scope.kind = .function) (hy : env.scope.names.lookup y = some .local) (hl : (py.line == pos.line) = true)
    (ha : (scope.names.any fun (n, k) => n == y && (k == .local || k == .cell)) = false) : swapsWith (.DictComp kx vx gs scope pos) (some (.Name y py)) l env = pure true := by
  have z1 : env.kindOf y = some .local := hy
  have z2 : env.blockKind = .function := by
    unfold Env.blockKind
    rw [hk]
    rfl
  unfold swapsWith
  simp only [z1, z2, ha, Expr.pos, hl]
  rfl
end
end KDc
-- KTxt
/-! split, join, dict.get, max with default in the manner of Evl -/
namespace KTxt
open PySem PySem.Spec PyProof.Rows L2 Evl KSq TL
def rSplitS : V → List V → Hp → VK → Prop := fun x xs H Q => ∃ a b, x = .str a ∧ xs = [.str b] ∧ (b.length == 0) = false ∧ a.length + 2 ≤ sizeLine ∧ rNewStrs (Txt.split a b) H Q
def rJoinS (K : PySem.W.Frag) : V → List V → Hp → VK → Prop := fun x xs H Q => ∃ a p, ∃ ys : List Str, x = .str a ∧ xs = [.ref p] ∧ (SqL K H p (ys.map V.str) ∨ SqT K H p (ys.map V.str)) ∧ (ys.map (·.length)).sum + ys.length * a.length ≤ 16777216 ∧ Q (.str (Txt.join a ys)) H
section
variable {X : Cx} {o e : Expr} {to te : TE} {apos pos : Pos}
theorem pe_splitS (ho : PE X o to) (he : PE X e te) (hs : starEach [e] X.env = [(false, eval e X.env)] := by rfl) (hbase : attributeBase o "split" X.env (eval o X.env) = eval o X.env := by rfl) (hline : (apos.endLine == pos.line) = true := by rfl) :
    PE X (.Call (.Attribute o "split" apos) [e] [] pos) (tM1 rSplitS to te) := pe_split ho he hs hbase hline
theorem pe_joinS (ho : PE X o to) (he : PE X e te) (hs : starEach [e] X.env = [(false, eval e X.env)] := by rfl) (hbase : attributeBase o "join" X.env (eval o X.env) = eval o X.env := by rfl) (hline : (apos.endLine == pos.line) = true := by rfl) :
    PE X (.Call (.Attribute o "join" apos) [e] [] pos) (tM1 (rJoinS X.K) to te) := pe_join ho he hs hbase hline
end
section
variable {K : PySem.W.Frag} {σ : L2.St} {H : Hp} {to te td ty tx : TE}
theorem el_split {a b : Str} (ho : Ev to σ H (.str a)) (he : Ev te σ H (.str b)) (hb : (b.length == 0) = false) (hl : a.length ≤ 1000000) : EvL (tM1 rSplitS to te) σ H ((Txt.split a b).map V.str) := fun H1 e Q q =>
  ho H1 e _ fun H2 e2 => ⟨⟨a, rfl⟩, he H2 (e.trans e2) _ fun H3 e3 => ⟨a, b, rfl, rfl, hb, Nat.le_trans (show a.length + 2 ≤ 1000002 by omega) (by decide), fun p hp => q p _ (fresh_back (e2.trans e3) hp) ((e2.trans e3).trans (Ex.new hp)) upd_same⟩⟩
/-- a new list, joined -/
theorem ev_joinL {a : Str} {ys : List Str} (ho : Ev to σ H (.str a)) (he : EvL te σ H (ys.map V.str)) (hl : (ys.map (·.length)).sum + ys.length * a.length ≤ 16777216) : Ev (tM1 (rJoinS K) to te) σ H (.str (Txt.join a ys)) := fun H1 e Q q =>
  ho H1 e _ fun H2 e2 => ⟨⟨a, rfl⟩, he H2 (e.trans e2) _ fun p H3 hp e3 h3 => ⟨a, p, ys, rfl, rfl, .inl (sq_of h3), hl, q H3 (e2.trans e3)⟩⟩
/-- a list that stands, joined -/
theorem ev_join {a : Str} {p : Addr} {ys : List Str} (ho : Ev to σ H (.str a)) (he : Ev te σ H (.ref p)) (hp : SqL K H p (ys.map V.str)) (hl : (ys.map (·.length)).sum + ys.length * a.length ≤ 16777216) : Ev (tM1 (rJoinS K) to te) σ H (.str (Txt.join a ys)) := fun H1 e Q q =>
  ho H1 e _ fun H2 e2 => ⟨⟨a, rfl⟩, he H2 (e.trans e2) _ fun H3 e3 => ⟨a, p, ys, rfl, rfl, .inl (ex_l ((e.trans e2).trans e3) hp), hl, q H3 (e2.trans e3)⟩⟩
/-- d.get(k, x) -/
theorem ev_get2 {a : Addr} {kvs : List (Key × V)} {k : Key} {z : V} (hd : Ev td σ H (.ref a)) (hk : Ev ty σ H (kV k)) (hx : Ev tx σ H z) (h : H a = some (.dK kvs)) : Ev (tDGet2 td ty tx) σ H ((valV kvs k).getD z) := fun H1 e Q q =>
  hd H1 e _ fun H2 e2 => ⟨a, rfl, .inl ⟨kvs, .inl (e2 _ _ (e _ _ h))⟩, hk H2 (e.trans e2) _ fun H3 e3 => hx H3 ((e.trans e2).trans e3) _ fun H4 e4 => ⟨_, DGet.k (e4 _ _ (e3 _ _ (e2 _ _ (e _ _ h)))), q H4 ((e2.trans e3).trans e4)⟩⟩
/-- d[k] -/
theorem ev_dget {a : Addr} {kvs : List (Key × V)} {k : Key} {v : V} (hd : Ev td σ H (.ref a)) (hk : Ev ty σ H (kV k)) (h : H a = some (.dK kvs)) (hv : valV kvs k = some v) : Ev (tDGet td ty) σ H v := fun H1 e Q q =>
  hd H1 e _ fun H2 e2 => hk H2 (e.trans e2) _ fun H3 e3 => ⟨a, v, rfl, by rw [← hv]; exact DGet.k (e3 _ _ (e2 _ _ (e _ _ h))), q H3 (e2.trans e3)⟩
/-- d[k] = v -/
theorem s_dput {D : Ends} {a : Addr} {kvs : List (Key × V)} {k : Key} {v : V} (hv : Ev tx σ H v) (hd : Ev td σ H (.ref a)) (hk : Ev ty σ H (kV k)) (h : H a = some (.dK kvs)) (hl : kvs.length ≤ 100000) (kk : ∀ H1, Ex H H1 → D.nx σ (upd H1 a (.dK (putK kvs k v)))) : sDPut td ty tx D σ H :=
  hv H (Ex.refl H) _ fun H1 e1 => hd H1 e1 _ fun H2 e2 => hk H2 (e1.trans e2) _ fun H3 e3 => ⟨a, _, rfl, DPut.k (e3 _ _ (e2 _ _ (e1 _ _ h))) (Nat.lt_of_le_of_lt hl (by decide)), kk H3 ((e1.trans e2).trans e3)⟩
theorem q_dput {D : Ends} {tz : TS} {a : Addr} {kvs : List (Key × V)} {k : Key} {v : V} (hv : Ev tx σ H v) (hd : Ev td σ H (.ref a)) (hk : Ev ty σ H (kV k)) (h : H a = some (.dK kvs)) (hl : kvs.length ≤ 100000) (kk : ∀ H1, Ex H H1 → tz D σ (upd H1 a (.dK (putK kvs k v)))) : tSeq (sDPut td ty tx) tz D σ H :=
  s_dput (D := { D with nx := tz D }) hv hd hk h hl kk
/-- words -/
theorem split_back {ws : List Str} (hne : ws ≠ []) (h : ∀ x ∈ ws, 32 ∉ tl x) : Txt.split (Txt.join (" " : Str) ws) (" " : Str) = ws := split_join (s := 32) (S := []) rfl (by decide +kernel) hne h
theorem join_len (y : Str) : ∀ parts : List Str, (tl (Str.join y parts)).length ≤ (parts.map (·.length)).sum + parts.length * y.length
  | [] => Nat.zero_le _
  | [x] => by
    show (tl x).length ≤ _
    rw [← len_tl]
    simp only [List.map_cons, List.map_nil, List.sum_cons, List.sum_nil]
    omega
  | x :: z :: r => by
    show (tl (x ++ y ++ Str.join y (z :: r))).length ≤ _
    have ih := join_len y (z :: r)
    rw [tl_append, tl_append, List.length_append, List.length_append, ← len_tl x, ← len_tl y]
    simp only [List.map_cons, List.sum_cons, List.length_cons] at ih ⊢
    rw [Nat.add_mul] at ih ⊢
    rw [Nat.add_mul]
    omega
theorem txt_len (ws : List Str) : (Txt.join (" " : Str) ws).length ≤ (ws.map (·.length)).sum + ws.length := by
  rw [join_eq, len_tl]
  have := join_len (" " : Str) ws
  have e : (" " : Str).length = 1 := rfl
  rw [e] at this
  omega
theorem sum_le {ws : List Str} {m : Nat} (h : ∀ x ∈ ws, x.length ≤ m) : (ws.map (·.length)).sum ≤ ws.length * m := by
  induction ws with
  | nil => simp
  | cons x r ih =>
    have h1 := ih fun y hy => h y (List.mem_cons_of_mem _ hy)
    have h2 := h x List.mem_cons_self
    rw [List.map_cons, List.sum_cons, List.length_cons, Nat.add_mul]
    omega
end
end KTxt
-- KSq2
/-! loops over what a smaller heap B knows, while other objects change -/
namespace KSq
open PySem PySem.Spec PyProof.Rows L2 Evl KEv
section
variable {K : PySem.W.Frag} {σ : L2.St} {B H : Hp} {a : Addr} {xs : List V} {tl te tk tv : TE} {t : TT} {D : Ends} {tu tz : TS} {j : Nat} {vs : List Nat}
theorem iseq_goB {R : It → Hp → Prop} (eB : Ex B H) (h : Ev tl σ B (.ref a)) (hx : Sq K B a xs)
    (k : ∀ (J : It) (G : Hp → Prop) H1, Ex H H1 → (∀ H2, Ex B H2 → G H2) → Walk J xs.length G (YAt xs) → R J H1) : iSeq K tl σ H R := by
  rcases hx with hx | hx
  · exact .inl (h H eB _ fun H1 e => ⟨a, rfl, ⟨xs, ex_l (eB.trans e) hx⟩, k _ (fun H => SqL K H a xs) H1 e (fun H2 e2 => ex_l e2 hx) walk_list⟩)
  · exact .inr (h H eB _ fun H1 e => ⟨a, rfl, ⟨xs, ex_t (eB.trans e) hx⟩, k _ (fun H => SqT K H a xs) H1 e (fun H2 e2 => ex_t e2 hx) walk_tup⟩)
theorem s_forSqB (eB : Ex B H) (h : Ev tl σ B (.ref a)) (hx : Sq K B a xs) (Pv : Nat → L2.St → Hp → Prop) (h0 : ∀ H1, Ex H H1 → Pv 0 σ H1) (hp : ∀ i σ' H', Pv i σ' H' → Ex B H')
    (hs : ∀ i x σ' H', xs[i]? = some x → Pv i σ' H' → tu { D with nx := Pv (i + 1), ct := Pv (i + 1), bk := D.nx } (σ'.set j (some x)) H') (hd : ∀ σ' H', Pv xs.length σ' H' → D.nx σ' H') : tFor (iSeq K tl) (gName j) tu D σ H :=
  iseq_goB eB h hx fun J G H1 e1 hg w => for_it w Pv (h0 H1 e1) (fun i σ' H' _ p => hg H' (hp i σ' H' p)) (fun i x σ' H2 H3 _ p y => by
    obtain ⟨rfl, hx⟩ := y
    exact hs i x σ' _ hx p) hd
theorem q_forSqB (eB : Ex B H) (h : Ev tl σ B (.ref a)) (hx : Sq K B a xs) (Pv : Nat → L2.St → Hp → Prop) (h0 : ∀ H1, Ex H H1 → Pv 0 σ H1) (hp : ∀ i σ' H', Pv i σ' H' → Ex B H')
    (hs : ∀ i x σ' H', xs[i]? = some x → Pv i σ' H' → tu { D with nx := Pv (i + 1), ct := Pv (i + 1), bk := tz D } (σ'.set j (some x)) H') (hd : ∀ σ' H', Pv xs.length σ' H' → tz D σ' H') : tSeq (tFor (iSeq K tl) (gName j) tu) tz D σ H :=
  s_forSqB (D := { D with nx := tz D }) eB h hx Pv h0 hp hs hd
/-- a list only -/
theorem s_forLB (eB : Ex B H) (h : Ev tl σ B (.ref a)) (hx : SqL K B a xs) (Pv : Nat → L2.St → Hp → Prop) (h0 : ∀ H1, Ex H H1 → Pv 0 σ H1) (hp : ∀ i σ' H', Pv i σ' H' → Ex B H')
    (hs : ∀ i x σ' H', xs[i]? = some x → Pv i σ' H' → tu { D with nx := Pv (i + 1), ct := Pv (i + 1), bk := D.nx } (σ'.set j (some x)) H') (hd : ∀ σ' H', Pv xs.length σ' H' → D.nx σ' H') : tFor (iList K tl) (gName j) tu D σ H :=
  h H eB _ fun H1 e => ⟨a, rfl, ⟨xs, ex_l (eB.trans e) hx⟩, for_it walk_list Pv (h0 H1 e) (fun i σ' H' _ p => ex_l (hp i σ' H' p) hx) (fun i x σ' H2 H3 _ p y => by
    obtain ⟨rfl, hx⟩ := y
    exact hs i x σ' _ hx p) hd⟩
theorem q_forLB (eB : Ex B H) (h : Ev tl σ B (.ref a)) (hx : SqL K B a xs) (Pv : Nat → L2.St → Hp → Prop) (h0 : ∀ H1, Ex H H1 → Pv 0 σ H1) (hp : ∀ i σ' H', Pv i σ' H' → Ex B H')
    (hs : ∀ i x σ' H', xs[i]? = some x → Pv i σ' H' → tu { D with nx := Pv (i + 1), ct := Pv (i + 1), bk := tz D } (σ'.set j (some x)) H') (hd : ∀ σ' H', Pv xs.length σ' H' → tz D σ' H') : tSeq (tFor (iList K tl) (gName j) tu) tz D σ H :=
  s_forLB (D := { D with nx := tz D }) eB h hx Pv h0 hp hs hd
/-- over a new list: it stays as long as B and it are known -/
theorem s_forNB (eB : Ex B H) (h : EvL tl σ B xs) (Pv : Nat → L2.St → Hp → Prop) (h0 : ∀ H1, Ex H H1 → Pv 0 σ H1) (q : Addr → Prop) (hq : ∀ p, H p = none → q p)
    (hp : ∀ i σ' H', Pv i σ' H' → True)
    (hs : ∀ (p : Addr) i x σ' H', q p → xs[i]? = some x → Pv i σ' H' → H' p = some (.lst xs) → tu { D with nx := fun σ2 H2 => Pv (i + 1) σ2 H2 ∧ H2 p = some (.lst xs), ct := fun σ2 H2 => Pv (i + 1) σ2 H2 ∧ H2 p = some (.lst xs), bk := D.nx } (σ'.set j (some x)) H') (hd : ∀ σ' H', Pv xs.length σ' H' → D.nx σ' H') : tFor (iList K tl) (gName j) tu D σ H :=
  h H eB _ fun p H1 hp1 e h1 => ⟨p, rfl, ⟨xs, sq_of h1⟩, for_it walk_list (fun i σ' H' => Pv i σ' H' ∧ H' p = some (.lst xs)) ⟨h0 H1 e, h1⟩ (fun i σ' H' _ z => sq_of z.2) (fun i x σ' H2 H3 _ z y => by
    obtain ⟨rfl, hx⟩ := y
    exact hs p i x σ' _ (hq p hp1) hx z.1 z.2) fun σ' H' z => hd σ' H' z.1⟩
end
end KSq
-- KSame
/-! isinstance, is None, not xs, an expression over a locked dict -/
namespace KSame
open PySem PySem.Spec PyProof.Rows L2 Evl KSq
def rIsN : R2 := fun x y H Q => y = .non ∧ Q (.bl (decide (x = .non))) H
theorem op_isNon {X : Cx} : OpR X (compareOp .Is) rIsN := op_isN
section
variable {K : PySem.W.Frag} {σ : L2.St} {H : Hp} {ta te : TE} {x : V}
theorem rv_isN : RV rIsN x .non H (.bl (decide (x = .non))) := fun H1 _ _ q => ⟨rfl, q H1 (Ex.refl H1)⟩
theorem rc_isi {A B : String} {r : Bool} (ty : ∀ H1, Ex H H1 → TyX K H1 x (.type A)) (h : kitB A B = some r) : RC (rIsi K) [x, .ty B] H (.bl r) := fun H1 e _ q => ⟨x, .ty B, .type A, .type B, r, rfl, .ty B, ty H1 e, kit_ty h, q H1 (Ex.refl H1)⟩
def tNotE (K : PySem.W.Frag) (ta : TE) : TE := fun σ H Q => ta σ H fun x H1 => ∃ k, TruV K x H1 k ∧ Q (.bl (!k)) H1
theorem pe_notE {X : Cx} {a : Expr} {pos : Pos} (ha : PE X a ta) : PE X (.UnaryOp .Not a pos) (tNotE X.K ta) := ⟨fun pins s σ H Q I h => UnaryOp_ (thn (ha.run pins s σ H _ I h) fun v s1 ⟨x, H1, I1, r1, k, hk, q⟩ =>
  not_of (thn (tru_ok pins s1 σ H1 x v (fun b H2 => Q (.bl (!b)) H2) I1 r1 ⟨k, hk, q⟩) fun b s2 ⟨H2, I2, q2⟩ => ⟨.bl (!b), H2, I2, rfl, q2⟩))⟩
/-- not of a new list -/
theorem ev_notL {xs : List V} (h : EvL ta σ H xs) : Ev (tNotE K ta) σ H (.bl xs.isEmpty) := fun H1 e Q q => h H1 e _ fun p H2 _ e2 h2 => ⟨!xs.isEmpty, .inl ⟨xs, sq_of h2, rfl⟩, by rw [Bool.not_not]; exact q H2 e2⟩
theorem ev_lock {d : Addr} {u : HO} {v : V} (h : H d = some u) (mu : Mut (some u)) (hv : ∀ od H1, Ex H H1 → H1 d = some u → Ev te σ (upd H1 d (.frz od u)) v) : Ev (tLockE te) σ H v := fun H1 e Q q =>
  ⟨d, u, e _ _ h, mu, fun od => hv od H1 e (e _ _ h) _ (Ex.refl _) _ fun H2 e2 => ⟨e2 _ _ upd_same, q _ fun b o hb => by
    by_cases z : b = d
    · rw [z, e _ _ h] at hb
      rw [z, upd_same, hb]
    · rw [upd_ne z]
      exact e2 _ _ (by rw [upd_ne z]; exact hb)⟩⟩
end
end KSame
-- KSame2
namespace KSame
open PySem PySem.Spec PyProof.Rows L2 Evl KSq
section
variable {K : PySem.W.Frag} {σ : L2.St} {H : Hp} {ta te td ty tp : TE} {t : TT} {x : V} {j : Nat} {vs : List Nat}
theorem ev_isi {A B : String} {r : Bool} (ha : Ev ta σ H x) (ty : ∀ H1, Ex H H1 → TyX K H1 x (.type A)) (h : kitB A B = some r) : Ev (tCB (rIsi K) (tCons ta (tCons (tC (.ty B)) tNil))) σ H (.bl r) := ev_cb (ea_cons ha (ea_cons ev_c ea_nil)) (rc_isi ty h)
theorem ev_isiT2 {A B C : String} (ha : Ev ta σ H x) (ty : ∀ H1, Ex H H1 → TyX K H1 x (.type A)) (h : kitB A B = some true ∨ (kitB A B = some false ∧ kitB A C = some true)) : Ev (tCB (rIsiT K) (tCons ta (tCons (tTup (tCons (tC (.ty B)) (tCons (tC (.ty C)) tNil))) tNil))) σ H (.bl true) := fun H1 e Q q =>
  ha H1 e _ fun H2 e2 => ⟨by show 2 ≤ sizeLine; decide, fun p hp => ⟨x, p, [.ty B, .ty C], .type A, [.type B, .type C], true, rfl, upd_same, .cons (.ty B) (.cons (.ty C) .nil), ty _ ((e.trans e2).trans (Ex.new hp)), by
    rcases h with h | ⟨h1, h2⟩
    · exact kitAny_cons (kit_ty h) (fun z => nomatch z) fun _ => rfl
    · exact kitAny_cons (kit_ty h1) (fun _ => kitAny_cons (kit_ty h2) (fun z => nomatch z) fun _ => rfl) (fun z => nomatch z), q _ (e2.trans (Ex.new hp))⟩⟩
theorem ev_lenSq {p : Addr} {xs : List V} (ha : Ev ta σ H (.ref p)) (h : Sq K H p xs) : Ev (tCB (rLenS K) (tCons ta tNil)) σ H (.int (xs.length : Int)) := fun H1 e Q q =>
  ha H1 e _ fun H2 e2 => ⟨p, xs, rfl, ex_sq (e.trans e2) h, q H2 e2⟩
def rLenD : List V → Hp → VK → Prop := fun xs H Q => ∃ a kvs, xs = [V.ref a] ∧ H a = some (.dK kvs) ∧ Q (.int kvs.length) H
theorem call_lenDk {X : Cx} : CallR X (.builtin "len") rLenD := call_lenD
theorem ev_lenDk {p : Addr} {kvs : List (Key × V)} (ha : Ev ta σ H (.ref p)) (h : H p = some (.dK kvs)) : Ev (tCB rLenD (tCons ta tNil)) σ H (.int (kvs.length : Int)) := fun H1 e Q q =>
  ha H1 e _ fun H2 e2 => ⟨p, kvs, rfl, e2 _ _ (e _ _ h), q H2 e2⟩
theorem rv_ixSq {p : Addr} {xs : List V} {i : Int} {v : V} (h : Sq K H p xs) (ha : atI xs i = some v) : RV (rIx K) (.ref p) (.int i) H v := fun H1 e _ q => by
  rcases h with h | h
  · exact .inl ⟨p, xs, i, v, rfl, rfl, ex_l e h, ha, q H1 (Ex.refl H1)⟩
  · exact .inr (.inl ⟨p, xs, i, v, rfl, rfl, ex_t e h, ha, q H1 (Ex.refl H1)⟩)
theorem given_none {n : Nat} {f : Nat → Bool} {v : Nat → V} (h : ∀ i, i < n → f i = false) : given n f v = [] := by
  unfold given
  rw [List.filter_eq_nil_iff.mpr fun i hi => by rw [h i (List.mem_range.mp hi)]; decide]
  rfl
theorem ev_dgetR {a : Addr} {kvs : List (Key × V)} {k : Key} {v : V} (hd : Ev td σ H (.ref a)) (hk : Ev ty σ H (kV k)) (h : Rd H a (.dK kvs)) (hv : valV kvs k = some v) : Ev (tDGet td ty) σ H v := fun H1 e Q q =>
  hd H1 e _ fun H2 e2 => hk H2 (e.trans e2) _ fun H3 e3 => ⟨a, v, rfl, .inl ⟨kvs, k, ex_rd ((e.trans e2).trans e3) h, rfl, hv.symm⟩, q H3 (e2.trans e3)⟩
theorem ev_dnotin {a : Addr} {kvs : List (Key × V)} {k : Key} (hk : Ev ty σ H (kV k)) (hd : Ev td σ H (.ref a)) (h : Rd H a (.dK kvs)) : Ev (tDNotIn ty td) σ H (.bl (!(valV kvs k).isSome)) := fun H1 e Q q =>
  hk H1 e _ fun H2 e2 => hd H2 (e.trans e2) _ fun H3 e3 => ⟨a, _, rfl, .inl ⟨kvs, k, ex_rd ((e.trans e2).trans e3) h, rfl, rfl⟩, q H3 (e2.trans e3)⟩
/-- a list comprehension over the keys of a locked dict -/
theorem el_lcK {d : Addr} {o : Obj} {kvs : List (Key × V)} (f : Nat → Bool) (v : Nat → V) (h : Ev td σ H (.ref d)) (hd : H d = some (.frz o (.dK kvs))) (hz : kvs.length ≤ 40000) (hw : ∀ x, wipe ((wipe σ vs).set j (some x)) vs = wipe σ vs)
    (ht : ∀ (i : Nat) (k : Key) (u : V) H1, Ex H H1 → kvs[i]? = some (k, u) → EvT t ((wipe σ vs).set j (some (kV k))) H1 (f i)) (he : ∀ (i : Nat) (k : Key) (u : V) H1, Ex H H1 → kvs[i]? = some (k, u) → f i = true → Ev te ((wipe σ vs).set j (some (kV k))) H1 (v i)) :
    EvL (tLc (iKeys td) (gName j) t te vs) σ H (given kvs.length f v) := fun H0 e Q q => h H0 e _ fun H1 e1 => ⟨d, o, rfl, .inl ⟨kvs, e1 _ _ (e _ _ hd), fun Dl hD =>
    lc_it walk_keys (Cw H1 f v Dl) ⟨hD, Ex.new hD, upd_same⟩ (fun i H' _ p => p.2.1 _ _ (e1 _ _ (e _ _ hd))) (fun i x H2 H3 hi p y => by
      obtain ⟨rfl, k, u, hx, rfl⟩ := y
      exact ⟨hw _, cw_turn p (by omega) (ht i k u H1 (e.trans e1) hx) (fun hf => he i k u H1 (e.trans e1) hx hf)⟩)
    (fun H' p => q Dl H' (fresh_back e1 p.1) (e1.trans p.2.1) p.2.2)⟩⟩
theorem valV_mem {κ : Type} [DecidableEq κ] : ∀ {kvs : List (κ × V)} {k : κ} {u : V}, (k, u) ∈ kvs → ∃ w, valV kvs k = some w ∧ (k, w) ∈ kvs
  | p :: r, k, u, h => by
    by_cases e : p.1 = k
    · exact ⟨p.2, valV_pos e, by rw [← e]; exact List.mem_cons_self⟩
    · have h2 : (k, u) ∈ r := (List.mem_cons.mp h).elim (fun z => absurd (by rw [← z]) e) id
      obtain ⟨w, h3, h4⟩ := valV_mem h2
      exact ⟨w, (valV_neg e).trans h3, List.mem_cons_of_mem _ h4⟩
end
end KSame
-- KSup
/-! an own error over an own error class over ValueError, whose __init__ says super().__init__(text) and stores its fields -/
namespace KSup
open PySem PySem.W PySem.Calls PyProof.Rows PySem.HandSPX
/-- self.f = f, one after another -/
def Sets : List Str → List Stmt → Prop
  | [], b => b = []
  | f :: fs, b => ∃ q1 q2 q3 q4 r, b = .Assign [.Attribute (.Name "self" q1) f q2] (.Name f q3) q4 :: r ∧ Sets fs r
theorem look_nd {k : Str} {v : Value} : ∀ {l : List (Str × Value)}, (l.map (·.1)).Nodup → (k, v) ∈ l → l.lookup k = some v
  | [], _, h => by cases h
  | (y, u) :: l, nd, h => by
    rw [List.map_cons, List.nodup_cons] at nd
    rcases List.mem_cons.mp h with e | h2
    · cases e
      simp [List.lookup]
    · have ne : (k == y) = false := by
        apply Bool.eq_false_iff.mpr
        intro z
        have z' := eq_of_beq z
        subst z'
        exact nd.1 (List.mem_map_of_mem (f := (·.1)) h2)
      simp only [List.lookup, ne]
      exact look_nd nd.2 h2
theorem look_rev {k : Str} {v : Value} {l : List (Str × Value)} (nd : (l.map (·.1)).Nodup) (h : (k, v) ∈ l) : l.reverse.lookup k = some v :=
  look_nd (by rw [List.map_reverse]; exact (List.reverse_perm _).nodup_iff.mpr nd) (List.mem_reverse.mpr h)
/-- what the written part says of such a class, at C, and of its __init__, at fI -/
structure SupTxt (prog : Program) (K : Frag) (mg : Str → Option Value) (x : Str) (C fI : Addr) (fs : List Str) : Prop where
  gC : mg x = some (.ref C)
  cls : ∃ nm q N bs bm sn sub ab col dd k0 k1 k2 k3 k5, K.lookup C = some (excClassObj nm q C N bs bm true sn sub ab col dd k0 k1 k2 k3 k5 "ValueError.__new__") ∧ refsVE bm = true ∧ alongIn K "__init__" bm = some (some (.builtin "ValueError.__init__"))
  sa : findIn K (.ref C) "__setattr__" = some (some (.builtin "object.__setattr__"))
  iC : findIn K (.ref C) "__init__" = some (some (.ref fI))
  tI : typeIn K (.ref fI) = some (.type "function")
  kC : keepIn K (.ref C) = true
  exC : subIn K (.ref C) (.type "BaseException") = some true
  veC : subIn K (.ref C) (.type "ValueError") = some true
  tyC : typeIn K (.ref C) = some (.type "type")
  cc : mroIn K C (.ref C) = some true
  no : ∀ f ∈ fs, findIn K (.ref C) f = some none
  nd : (("self" : Str) :: fs).Nodup
  nz : fs.length ≤ 8
  dbg : ∀ f ∈ fs, (f == ("__debug__" : Str)) = false
  stat : nsIn K cStatics "thirdparty.any" = some none
  sup : mg "super" = none
  top : (prog.main.scope.names.lookup ("super" : Str)).isSome = false
  fn : ∃ (oc ccl cl : Value) (od cdd cld : Option Addr) (cda cc : Addr) (qual : Str) (par : Arguments) (scope : Scope) (doc pm ct : Value) (an : Option Addr) (osl ccs csl : Array (Option Value)) (vs : Array Value) (file : Str) (tf : Tok) (text : Str) (j : Nat) (p0 p1 p2 p3 p4 p5 : Pos) (rest : List Stmt) (ar : Arg),
    K.lookup fI = some ⟨oc, od, .func (ksFn "__init__" qual par (.Expr (.Call (.Attribute (.Call (.Name "super" p0) [] [] p1) "__init__" p2) [.Constant (.str text) j p3] [] p4) p5 :: rest) scope .none .none doc pm an (.ref cda) ct cc), osl⟩ ∧ codeIn K (.ref cda) qual = true ∧
    Sets fs rest ∧ par.posonlyargs ++ par.args = ar :: (par.posonlyargs ++ par.args).tail ∧ ar.arg = "self" ∧
    K.lookup cda = some ⟨ccl, cdd, .fields vs, ccs⟩ ∧ vs[2]? = some (.str file tf) ∧ ((prog.main.file : Str) == file) = true ∧ (p2.endLine == p4.line) = true ∧
    K.lookup cc = some ⟨cl, cld, .cell (some (.ref C)), csl⟩ ∧
    scope.kind = .function ∧ scope.isCoroutine = false ∧ scope.isGenerator = false ∧ (∀ x ∈ scope.names, x.2 ≠ .cell) ∧ scope.names.lookup ("super" : Str) = some .globalImplicit ∧ scope.names.lookup ("__class__" : Str) = some .free ∧ (∀ f ∈ ("self" : Str) :: fs, scope.names.lookup f = some .local) ∧
    ∀ (s : Shared) (us : List Value), us.length = fs.length + 1 → BindsTo s (ksFn "__init__" qual par (.Expr (.Call (.Attribute (.Call (.Name "super" p0) [] [] p1) "__init__" p2) [.Constant (.str text) j p3] [] p4) p5 :: rest) scope .none .none doc pm an (.ref cda) ct cc) ⟨us, []⟩ ((("self" : Str) :: fs).zip us)
/-- what __init__ leaves of a fresh exception at x -/
structure InitEnd (h h' : Heap) (x C dx t1 : Addr) (acc : List (Str × Value)) : Prop where
  keep : ∀ b o, b ≠ x → h.get? b = some o → h'.get? b = some o
  obj : h'.get? x = some { cls := .ref C, dict := some dx, data := .fields #[.ref t1, .none, .none, .none, .bool false, .none] }
  dbig : h.objs.size ≤ dx
  dne : dx ≠ x
  ns : h'.Ns1 dx fun y => acc.lookup y
section
variable {prog : Program} {w : World} {A : Around} {E : Value → Shared → Prop} {R : Result → Shared → Prop} {K : Frag} {mg : Str → Option Value} {C fI : Addr} {cn : Str} {fs : List Str}
theorem put_look {f : Str} {v : Value} {acc : List (Str × Value)} : (fun y : Str => if y = f then some v else acc.lookup y) = fun y => ((f, v) :: acc).lookup y := by
  funext y
  by_cases h : y = f
  · subst h
    simp [List.lookup]
  · rw [if_neg h]
    have e : (y == f) = false := by simpa using h
    simp [List.lookup, e]
theorem within_acc {acc : List (Str × Value)} : Within (fun y : Str => acc.lookup y) (acc.map (·.1)) := fun y hy => by
  induction acc with
  | nil => exact absurd rfl hy
  | cons p acc ih =>
    obtain ⟨f, v⟩ := p
    by_cases h : y = f
    · rw [h]
      exact List.mem_cons_self
    · have e : (y == f) = false := by simpa using h
      refine List.mem_cons_of_mem _ (ih ?_)
      intro z
      apply hy
      show ((f, v) :: acc).lookup y = none
      simp only [List.lookup, e]
      exact z
/-- the further stores -/
theorem sets_run {env : Env} {L x dx t1 : Addr} {m : Str → Option Value} {cd : ClassData} (hk : env.scope.kind = .function) (hL : env.locals = L) (hm : m "self" = some (.ref x)) (hself : env.kindOf "self" = some .local)
    (hcl : clsIn K C = some cd) (hmr : refsVE cd.mro = true) (hdc : cd.hasDict = true) (hsa : findIn K (.ref C) "__setattr__" = some (some (.builtin "object.__setattr__"))) (hnx : K.lookup dx = none) (hxd : x ≠ dx) (hLd : L ≠ dx) :
    ∀ (fs : List Str) (us : List Value) (b : List Stmt) (acc : List (Str × Value)) (s : Shared), Sets fs b → us.length = fs.length → acc.length + fs.length ≤ 100 → K.In s.heap → s.heap.Ns L m → (∀ f ∈ fs, env.kindOf f = some .local ∧ (f == ("__debug__" : Str)) = false ∧ findIn K (.ref C) f = some none) → (∀ p ∈ fs.zip us, m p.1 = some p.2) →
      s.heap.get? x = some { cls := .ref C, dict := some dx, data := .fields #[.ref t1, .none, .none, .none, .bool false, .none] } → s.heap.Ns1 dx (fun y => acc.lookup y) → ∀ (Q : Flow → Shared → Prop),
      (∀ h' tk, (∀ b o, b ≠ dx → s.heap.get? b = some o → h'.get? b = some o) → h'.Ns1 dx (fun y => ((fs.zip us).reverse ++ acc).lookup y) → Q .next { s with heap := h', toks := tk }) → wpAny (model prog w) A (execs b env) Q E s
  | [], us, b, acc, s, hb, hl, hz, X, hn, hf, hu, hx, ha, Q, q => by
    cases hb
    have e : us = [] := List.length_eq_zero_iff.mp hl
    subst e
    exact wpAny_execs_nil (q s.heap s.toks (fun _ _ _ h => h) ha)
  | f :: fs, us, b, acc, s, hb, hl, hz, X, hn, hf, hu, hx, ha, Q, q => by
    obtain ⟨q1, q2, q3, q4, r, rfl, hr⟩ := hb
    cases us with
    | nil => cases hl
    | cons u us =>
      obtain ⟨f1, f2, f3⟩ := hf f List.mem_cons_self
      have hv : m f = some u := hu (f, u) List.mem_cons_self
      obtain ⟨hp, g, dr, tk, os⟩ := s
      obtain ⟨oD, _, _, hoD, _, _⟩ := ha.count within_acc
      refine wpAny_execs_cons (plainObj_wpAny_Assign_Attribute ?_)
      refine ESX.ldL (by rw [hL]; exact hn) hv (ESX.ldL (by rw [hL]; exact hn) hm ?_ hk hself) hk f1 f2
      refine PySem.W.set_plain X (ox := { cls := .ref C, dict := some dx, data := .fields #[.ref t1, .none, .none, .none, .bool false, .none] }) (od := some oD) ⟨hx, rfl, rfl, hoD⟩ hsa ?_
      refine PySem.OEX.osa_old X hx ha within_acc (by rw [List.length_map]; omega) hcl hmr hdc f3 (fun h' tk' k hn' => ?_)
      show wpAny _ _ (execs _ _) _ _ _
      rw [put_look] at hn'
      have xne : x ≠ dx := hxd
      refine sets_run hk hL hm hself hcl hmr hdc hsa hnx hxd hLd fs us r ((f, u) :: acc) ⟨h', g, dr, tk', os⟩ hr (by simpa using hl) (by simp only [List.length_cons] at hz ⊢; omega)
        (fun a o e => k a o (fun z => by rw [z, hnx] at e; cases e) (X a o e)) (hn.at fun o e => k _ _ hLd e) (fun f h => hf f (List.mem_cons_of_mem _ h)) (fun p h => hu p (List.mem_cons_of_mem _ h)) (k _ _ hxd hx) hn' Q fun h2 tk2 k2 n2 => ?_
      refine q h2 tk2 (fun b o hb e => k2 b o hb (k b o hb e)) ?_
      have e : ((f :: fs).zip (u :: us)).reverse ++ acc = (fs.zip us).reverse ++ (f, u) :: acc := by simp
      rw [e]
      exact n2
/-- super().__init__(..): the call's tree -/
theorem sup_tree {o : Expr} {n : Str} {e : Expr} {apos pos : Pos} {env : Env} (hp : (apos.endLine == pos.line) = true) (he : starEach [e] env = (false, eval e env) :: starEach [] env) :
    eval (.Call (.Attribute o n apos) [e] [] pos) env = (do
      let ov ← attributeBase o n env (eval o env)
      standAt apos.atName
      let (f, first) ← holding [ov] (getMethod ov n (do return (← importBound o env).getD true))
      callWith pos f first (backTo pos (starEach [e] env)) []) := by
  have e1 : ∀ ov, methodCall o n apos pos env ov ([e].length + ([] : List Keyword).length) (backTo pos (starEach [e] env)) (backToKw pos (keywordEach [] env)) = (do
      let (f, first) ← holding [ov] (getMethod ov n (do return (← importBound o env).getD true))
      callWith pos f first (backTo pos (starEach [e] env)) []) := fun ov => by
    unfold methodCall
    have hf : methodCallForm ([e].length + ([] : List Keyword).length) (backTo pos (starEach [e] env)) (backToKw pos (keywordEach [] env)) = true := by
      rw [he]
      rfl
    have hm : methodCallPos true o env apos pos = pure pos := by
      unfold methodCallPos
      rw [hp]
      rfl
    rw [hf, hm]
    simp only [pure_bind]
    rfl
  rw [arm_eval_Call]
  simp only [e1]
/-- ValueError.__init__ bound to the exception, called -/
theorem call_bwV {nm q : Str} {N : Addr} {bs bm : List Value} {hdct : Bool} {sn : List Str} {sub : List Value} {ab : Bool} {col : Option Bool} {dd : Option Addr} {k0 k1 k2 k3 k5 : Option Value} {u e t0 : Addr} {rest : List Value} {h : Heap} {g : Array GenState} {d : Drawn} {t : Nat} {os : OsState} {Q : Value → Shared → Prop}
    (hC : h.get? C = some (excClassObj nm q C N bs bm hdct sn sub ab col dd k0 k1 k2 k3 k5 "ValueError.__new__")) (he : h.get? e = some (excO C t0)) (hu : h.get? u = some (kxs_mw "ValueError.__init__" e)) (hrest : rest.length ≤ sizeLine)
    (hq : ∀ h' t1, (∀ b o, b ≠ e → h.get? b = some o → h'.get? b = some o) → h'.get? e = some (excO C t1) → Q .none ⟨h', g, d, t, os⟩) :
    wpAny (model prog w) A (call (.ref u) rest) Q E ⟨h, g, d, t, os⟩ := by
  refine wpAny_call (codeAny_of_tree ?_)
  show wpAny _ A.in1 (callAny (.ref u) ⟨rest, []⟩) _ _ _
  simp only [callAny]
  refine wpAny_bind (wpAny_load hu ?_)
  simp only [kxs_mw, show (Value.type "method-wrapper" == Value.type "method" || Value.type "method-wrapper" == Value.type "builtin_function_or_method" || Value.type "method-wrapper" == Value.type "method-wrapper") = true by decide, if_true]
  refine W.KFB.if_so (by decide) ?_
  refine wpAny_bind (ESX.check_bound F.excBase_ValueError hC he rfl ?_)
  refine wpAny_bind (wpAny_pure (wpAny_pure ?_))
  refine ⟨Code.quiet_builtin _ (by decide +kernel), codeAny_builtin F.excBase_ValueError.initEntry ?_⟩
  rw [Around.under_plainId F.excBase_ValueError.init.plain _]
  wp_walk
  refine hq _ h.objs.size (fun b o hb ho => ?_) ?_
  · rw [Heap.get?_update_other _ _ (Ne.symm hb)]
    exact Heap.get?_push_of_some _ ho
  · rw [Heap.get?_update_self _ (Heap.get?_push_of_some _ he) rfl]
    rfl
theorem sup_init (T : SupTxt prog K mg cn C fI fs) {x t0 : Addr} {us : List Value} {s : Shared} (X : K.In s.heap) (G : s.heap.Ns mainGlobals mg) (Bt : ∃ mb, s.heap.Ns builtinsNs mb ∧ ∀ y : Str, y ≠ "__name__" → mb y = bootBuiltins y) (hlim : s.heap.NoLimit)
    (hx : s.heap.get? x = some (excO C t0)) (hnx : K.lookup x = none) (hroom : A.depth < recursionLimit) (hl : us.length = fs.length) (h0 : fs ≠ [])
    (hq : ∀ h' tk dx t1, InitEnd s.heap h' x C dx t1 (fs.zip us).reverse → R (.ok (.ret .none)) { s with heap := h', toks := tk }) :
    codeAny (model prog w) A (.call (.ref fI) ⟨.ref x :: us, []⟩) R s := by
  obtain ⟨oc, ccl, cl, od, cdd, cld, cda, cc, qual, par, scope, doc, pm, ct, an, osl, ccs, csl, vs, file, tf, text, j, p0, p1, p2, p3, p4, p5, rest, ar, lk, hcd, hset, hpar, har, lcd, hvs, hfile, hline, lcc, hk, hco, hgen, hcell, hks, hkc, hloc, hbind⟩ := T.fn
  obtain ⟨nm, q, N, bs, bm, sn, sub, ab, col, dd, k0, k1, k2, k3, k5, hC, hbm, halong⟩ := T.cls
  have hcl : clsIn K C = some { name := nm, bases := bs, mro := .ref C :: bm, ns := N, qualname := q, hasDict := true, slotNames := sn, subclasses := sub, abstract := ab, collection := col, hasDel := false } := by unfold clsIn; rw [hC] <;> rfl
  obtain ⟨mb, nB, hmb⟩ := Bt
  obtain ⟨hp, g, dr, tk, os⟩ := s
  have hb := hbind ⟨hp, g, dr, tk, os⟩ (.ref x :: us) (by rw [List.length_cons, hl])
  have hb1 : (("self" : Str) :: fs).zip (Value.ref x :: us) = (("self" : Str), Value.ref x) :: fs.zip us := rfl
  rw [hb1] at hb
  have keys : ((("self" : Str), Value.ref x) :: fs.zip us).map (·.1) = ("self" : Str) :: fs := by
    rw [List.map_cons, List.map_fst_zip (by omega)]
  have hfst : ∀ y ∈ (("self" : Str), Value.ref x) :: fs.zip us, y.1 ∈ ("self" : Str) :: fs := fun y hy => by
    rw [← keys]
    exact List.mem_map_of_mem hy
  have lookB : ∀ y ∈ (("self" : Str), Value.ref x) :: fs.zip us, ((("self" : Str), Value.ref x) :: fs.zip us).reverse.lookup y.1 = some y.2 := fun y hy => look_rev (by rw [keys]; exact T.nd) hy
  have hxC : x ≠ C := fun z => by
    rw [z, hC] at hnx
    cases hnx
  refine ks_codeAny_call_defAt hroom (X _ _ lk) rfl hlim (codeRec_of X hcd) rfl hb hcell (fun y hy => hloc _ (hfst y hy)) (fun h₁ hns hk₁ => ?_) hco hgen hk
  have X1 : K.In h₁ := X.keeps hk₁
  have ekind : ∀ y, (callEnv (ksFn "__init__" qual par (.Expr (.Call (.Attribute (.Call (.Name "super" p0) [] [] p1) "__init__" p2) [.Constant (.str text) j p3] [] p4) p5 :: rest) scope .none .none doc pm an (.ref cda) ct cc) hp.objs.size fI).kindOf y = scope.names.lookup y := fun y => rfl
  generalize henv : callEnv (ksFn "__init__" qual par (.Expr (.Call (.Attribute (.Call (.Name "super" p0) [] [] p1) "__init__" p2) [.Constant (.str text) j p3] [] p4) p5 :: rest) scope .none .none doc pm an (.ref cda) ct cc) hp.objs.size fI = env at ekind
  have es : env.scope = scope := by rw [← henv]; rfl
  have eL : env.locals = hp.objs.size := by rw [← henv]; rfl
  have eG : env.globals = mainGlobals := by rw [← henv]; rfl
  have eB : env.builtins = builtinsNs := by rw [← henv]; rfl
  have eF : env.func = some fI := by rw [← henv]; rfl
  have eC : env.code = .ref cda := by rw [← henv]; rfl
  have eCell : env.cells.lookup ("__class__" : Str) = some cc := by rw [← henv]; rfl
  have ek : env.scope.kind = .function := by rw [es]; exact hk
  refine ks_wpAt_execs_cons (ks_wpAt_Expr_any (ks_wpAt_MethodCall ?_ (sup_tree hline (by rfl))) (by unfold interactive; rw [ek]; rfl) (by rfl))
  have hC1 := X1 _ _ hC
  have hx1 := hk₁ _ _ hx
  refine ks_wpAt_super_base (by rw [ekind]; exact hks) (by rw [ekind]; exact hkc) (by decide) eF (X1 _ _ lk) rfl (by show (par.posonlyargs ++ par.args).head? = some ar; rw [hpar]; rfl) eC (X1 _ _ lcd) rfl hvs hfile T.top ?_
  refine ks_loadName_global ek (by rw [ekind]; exact hks) (loadGlobal_builtin (by rw [eG]; exact G.keeps hk₁) T.sup (by rw [eB]; exact nB.keeps hk₁) ((hmb _ (by decide)).trans (by first | boot_by_name | rfl | kernel_rfl)) ⟨rfl, ?_⟩)
  refine wpAny_loadName_free ek (by rw [ekind]; exact hkc) eCell ⟨_, X1 _ _ lcc, rfl⟩ ?_
  refine wpAny_loadName_local ek (by rw [ekind, har]; exact hloc _ List.mem_cons_self) (by rw [eL]; exact hns) (by rw [har]; exact lookB _ List.mem_cons_self) ?_
  refine ks_wpAny_isType_cls hC1 rfl ⟨rfl, ?_⟩
  refine ks_wpAny_call_super hC1 rfl hx1 rfl (fun c e => nomatch e) (looks_mroIn X1 T.cc) (fun h2 so2 k2 => ?_)
  have X2 : K.In h2 := X1.keeps k2
  have hx2 := k2 _ _ hx1
  have I2 : InstAt h2 x (excO C t0) C none := ⟨hx2, rfl, rfl, trivial⟩
  refine kxs_getMethod kxs_ValueError so2 (looks_opaque X2 T.stat) (l₀ := .ref C :: bm) (fun A Q E s k q => wpAny_bind ((looks_clsIn X2 hcl) A _ E s k (wpAny_pure q))) (ESX.drop_own C bm) X2 halong (I2.type.andThen (looks_subIn X2 T.veC)) hxC (by decide) ?_
  have he : starEach [.Constant (.str text) j p3] env = (false, eval (.Constant (.str text) j p3) env) :: starEach [] env := by rfl
  rw [he]
  have k3 : ∀ b o, h2.get? b = some o → (h2.push (kxs_mw "ValueError.__init__" x)).get? b = some o := fun b o e => Heap.get?_push_of_some _ e
  refine kxs_callWith (i := "ValueError.__init__") (x := x) (by rfl) (evalArgs_plain ?_)
  refine args_cons (wpAny_Constant_str (args_nil ?_)) (by rfl)
  refine ⟨Heap.get?_push_size _ rfl, ?_⟩
  refine call_bwV (k3 _ _ (k2 _ _ hC1)) (k3 _ _ hx2) (Heap.get?_push_size _ rfl) (by rw [sizeLine_eq]; show 1 ≤ 16777216; decide) fun h4 t4 k4 hx4 => ?_
  have X4 : K.In h4 := fun a o e => k4 a o (fun z => by rw [z, hnx] at e; cases e) (X2.keeps k3 a o e)
  have old : ∀ b o, b ≠ x → hp.get? b = some o → h4.get? b = some o := fun b o hb e => k4 b o hb (k3 b o (k2 b o (hk₁ b o e)))
  have xL : hp.objs.size ≠ x := Nat.ne_of_gt (Heap.lt_size hx)
  have n4 : h4.Ns hp.objs.size (fun y => (((("self" : Str), Value.ref x) :: fs.zip us).reverse).lookup y) := hns.at fun o e => k4 _ o xL (k3 _ o (k2 _ o e))
  have hself : env.kindOf "self" = some .local := by rw [ekind]; exact hloc _ List.mem_cons_self
  refine wpAt_of_wpAny ?_
  cases fs with
  | nil => exact absurd rfl h0
  | cons f fs =>
    cases us with
    | nil => cases hl
    | cons u us =>
      obtain ⟨q1, q2, q3, q4, r, rfl, hr⟩ := hset
      refine wpAny_execs_cons (plainObj_wpAny_Assign_Attribute ?_)
      have hf := lookB (f, u) (List.mem_cons_of_mem _ List.mem_cons_self)
      refine ESX.ldL (by rw [eL]; exact n4) hf (ESX.ldL (by rw [eL]; exact n4) (lookB _ List.mem_cons_self) ?_ ek hself) ek (by rw [ekind]; exact hloc _ (List.mem_cons_of_mem _ List.mem_cons_self)) (T.dbg f List.mem_cons_self)
      refine set_plain X4 (ox := excO C t4) (od := none) ⟨hx4, rfl, rfl, trivial⟩ T.sa ?_
      refine exc_osa X4 hx4 hcl (show refsVE (.ref C :: bm) = true from hbm) rfl (T.no f List.mem_cons_self) (fun h5 tk5 dx k5 dn dne hx5 hn5 => ?_)
      show wpAny _ _ (execs _ _) _ _ _
      have z0 : hp.objs.size < h4.objs.size := n4.lt
      have hnd : K.lookup dx = none := by
        cases e : K.lookup dx with
        | none => rfl
        | some o => exact absurd (Heap.lt_size (X4 _ _ e)) (Nat.not_lt.mpr dn)
      have hLd : hp.objs.size ≠ dx := Nat.ne_of_lt (Nat.lt_of_lt_of_le z0 dn)
      have e1 : (fun y : Str => if y = f then some u else none) = fun y => ([(f, u)] : List (Str × Value)).lookup y := put_look (acc := [])
      rw [e1] at hn5
      refine sets_run (dx := dx) ek eL (lookB _ List.mem_cons_self) hself hcl (show refsVE (.ref C :: bm) = true from hbm) rfl T.sa hnd dne.symm hLd fs us r [(f, u)] ⟨h5, g, dr, _, os⟩ hr (by simpa using hl)
        (by have := T.nz; simp only [List.length_cons, List.length_nil] at this ⊢; omega) (fun a o e => k5 a o (fun z => by rw [z, hnx] at e; cases e) (X4 a o e)) (n4.at fun o e => k5 _ o xL e)
        (fun y hy => ⟨by rw [ekind]; exact hloc _ (List.mem_cons_of_mem _ (List.mem_cons_of_mem _ hy)), T.dbg y (List.mem_cons_of_mem _ hy), T.no y (List.mem_cons_of_mem _ hy)⟩)
        (fun p hp' => lookB p (List.mem_cons_of_mem _ (List.mem_cons_of_mem _ hp'))) hx5 hn5 _ fun h6 tk6 k6 n6 => ?_
      have e2 : ((f :: fs).zip (u :: us)).reverse = (fs.zip us).reverse ++ [(f, u)] := by simp
      have xd : x ≠ dx := dne.symm
      refine hq h6 _ dx t4 ⟨fun b o hb e => k6 b o (fun z => ?_) (k5 b o hb (old b o hb e)), k6 _ _ xd hx5, Nat.le_of_lt (Nat.lt_of_lt_of_le z0 dn), dne, by rw [e2]; exact n6⟩
      have hlt := Heap.lt_size e
      rw [z] at hlt
      exact absurd hlt (Nat.not_lt.mpr (Nat.le_of_lt (Nat.lt_of_lt_of_le z0 dn)))
/-- a made one -/
structure OwnMade (h h' : Heap) (e C d : Addr) (acc : List (Str × Value)) : Prop where
  keep : ∀ b o, h.get? b = some o → h'.get? b = some o
  new : h.objs.size ≤ e
  obj : ∃ oe vs, h'.get? e = some oe ∧ oe.cls = .ref C ∧ oe.dict = some d ∧ oe.data = .fields vs ∧ vs[1]? = some .none ∧ vs[2]? = some .none
  dbig : h.objs.size ≤ d
  dne : d ≠ e
  ns : h'.Ns1 d fun y => acc.lookup y
theorem sup_made (T : SupTxt prog K mg cn C fI fs) {us : List Value} {s : Shared} (X : K.In s.heap) (G : s.heap.Ns mainGlobals mg) (Bt : ∃ mb, s.heap.Ns builtinsNs mb ∧ ∀ y : Str, y ≠ "__name__" → mb y = bootBuiltins y) (hlim : s.heap.NoLimit) (hroom : A.depth + 1 < recursionLimit) (hl : us.length = fs.length) (h0 : fs ≠ [])
    (hq : ∀ h' tk e d, OwnMade s.heap h' e C d (fs.zip us).reverse → R (.ok (.ret (.ref e))) { s with heap := h', toks := tk }) :
    codeAny (model prog w) A (.call (.ref C) ⟨us, []⟩) R s := by
  obtain ⟨nm, q, N, bs, bm, sn, sub, ab, col, dd, k0, k1, k2, k3, k5, hC, hbm, _⟩ := T.cls
  obtain ⟨mb, nB, hmb⟩ := Bt
  obtain ⟨hp, g, dr, tk, os⟩ := s
  have k : ∀ b o, hp.get? b = some o → ((hp.push (kdv_tup us)).push (excO C hp.objs.size)).get? b = some o := fun b o e => Heap.get?_push_of_some _ (Heap.get?_push_of_some _ e)
  have hget : ((hp.push (kdv_tup us)).push (excO C hp.objs.size)).get? (hp.objs.size + 1) = some (excO C hp.objs.size) := by heap_get
  have hnx : K.lookup (hp.objs.size + 1) = none := by
    cases e : K.lookup (hp.objs.size + 1) with
    | none => rfl
    | some o =>
      have z : hp.get? (hp.objs.size + 1) = some o := X _ _ e
      exact absurd (Nat.lt_of_succ_lt (Heap.lt_size z)) (Nat.lt_irrefl _)
  have hz := T.nz
  refine call_own F.excBase_ValueError (fun X => refsVE_contains X bm hbm) (X _ _ hC) (looks_findIn X T.iC) (fun self => bind_fn X self T.tI) (by rw [sizeLine_eq]; omega) ?_
  refine sup_init (s := ⟨(hp.push (kdv_tup us)).push (excO C hp.objs.size), g, dr, tk, os⟩) T (X.keeps k) (G.keeps k) ⟨mb, nB.keeps k, hmb⟩ (hlim.keeps k) hget hnx ?_ hl h0 fun h' tk' dx t1 ⟨k', hx, dn, dne, hns⟩ => ?_
  · show A.depth + 1 < recursionLimit
    exact hroom
  · have old : ∀ b o, hp.get? b = some o → h'.get? b = some o := fun b o e => k' b o (Nat.ne_of_lt (Nat.lt_succ_of_lt (Heap.lt_size e))) (k b o e)
    have z : hp.objs.size + 1 + 1 ≤ dx := by
      first
        | (simpa only [Heap.size_push] using dn)
        | exact dn
        | (have q := dn; rw [Heap.size_push, Heap.size_push] at q; exact q)
    exact ⟨rfl, hq h' tk' (hp.objs.size + 1) dx ⟨old, Nat.le_succ _, ⟨_, _, hx, rfl, rfl, rfl, rfl, rfl⟩, Nat.le_trans (Nat.le_trans (Nat.le_succ _) (Nat.le_succ _)) z, dne, hns⟩⟩
end
end KSup
-- KSup2
/-! raise C(e, ..) of such a class; the caught exception as a thing that is known -/
namespace KSup
open PySem PySem.Spec PyProof.Rows L2
/-- the same keys, alike values -/
inductive RelL : List (Str × V) → List (Str × Value) → Prop
  | nil : RelL [] []
  | cons {f : Str} {v : V} {u : Value} {a b} (r : RelV v u) (t : RelL a b) : RelL ((f, v) :: a) ((f, u) :: b)
theorem RelL.append : ∀ {a b c d}, RelL a b → RelL c d → RelL (a ++ c) (b ++ d)
  | _, _, _, _, .nil, h => h
  | _, _, _, _, .cons r t, h => .cons r (t.append h)
theorem RelL.reverse : ∀ {a b}, RelL a b → RelL a.reverse b.reverse
  | _, _, .nil => .nil
  | _, _, .cons r t => by
    rw [List.reverse_cons, List.reverse_cons]
    exact t.reverse.append (.cons r .nil)
theorem relL_zip : ∀ {fs : List Str} {vs : List V} {us : List Value}, Vals vs us → RelL (fs.zip vs) (fs.zip us)
  | [], _, _, _ => by
    rw [List.zip_nil_left, List.zip_nil_left]
    exact .nil
  | f :: fs, _, _, .nil => by
    rw [List.zip_nil_right, List.zip_nil_right]
    exact .nil
  | f :: fs, _, _, .cons r t => .cons r (relL_zip t)
theorem RelL.relO : ∀ {a b}, RelL a b → ∀ f, RelO (a.lookup f) (b.lookup f)
  | _, _, .nil, _ => True.intro
  | _, _, .cons (f := y) r t, f => by
    by_cases h : f = y
    · subst h
      simp only [List.lookup, beq_self_eq_true]
      exact r
    · have e : (f == y) = false := by simpa using h
      simp only [List.lookup, e]
      exact t.relO f
section
variable {X : Cx} {C fI : Addr} {fs : List Str}
/-- C(e, ..) -/
def tMkS (C : Addr) (fs : List Str) (ta : TA) : L2.St → Hp → XK → Prop := fun σ H Q => ta σ H fun vs H1 => vs.length = fs.length ∧ ∀ d, H1 d = none → Q (.ref C) (some d) (upd H1 d (.xd (fs.zip vs).reverse))
theorem pmk_sup {x : Str} {a : Expr} {es : List Expr} {ta : TA} {p pos : Pos} {k : Nat} (T : SupTxt X.prog X.K X.mg x C fI fs) (h0 : fs ≠ []) (hr : Room k X.A) (ha : PA X (a :: es) ta) (hg : Gl X x)
    (hdb : (x == ("__debug__" : Str)) = false := by decide) (he : starEach (a :: es) X.env = (false, eval a X.env) :: starEach es X.env := by rfl) (hpl : (backTo pos (starEach es X.env)).any (·.1) = false := by rfl) :
    L2N.PMk X (.Call (.Name x p) (a :: es) [] pos) (tMkS C fs ta) := by
  intro pins s σ H Q I h
  refine wpAny_Call_Name_kw (ld_glob I hg T.gC ?_ hdb)
  refine PySem.W.callWith_K (h₀ := X.base) I.ok.mod.kin T.kC (thn (ha.run pos pins s σ H _ I h) fun us s1 hh => ?_) he hpl
  obtain ⟨vs, H1, I1, r1, hl, q1⟩ := hh
  refine ⟨I1.kIn, ?_⟩
  have hlim := I1.nolimit
  obtain ⟨mb, nb, hmb⟩ := I1.mod.blt
  have bk := I1.bk
  have gk := I1.mod.glob.keeps bk
  have nk := nb.keeps bk
  have hlu : us.length = fs.length := by rw [← r1.length]; exact hl
  obtain ⟨hp, g, dr, tk, os⟩ := s1
  refine wpAny_call (sup_made T I1.kIn gk ⟨mb, nk, hmb⟩ hlim (by have := hr.dp; omega) hlu h0 fun h' tk' e d M => ?_)
  show L2N.MkP X pins σ Q (.ref e) ⟨h', g, dr, tk', os⟩
  obtain ⟨oe, fv, hoe, hc, hd, hdat, h1, h2⟩ := M.obj
  have hns := M.ns
  obtain ⟨G', g1, g2⟩ := restrict h' fun b => decide (b ≠ e)
  have gk' : ∀ b, b ≠ e → G'.get? b = h'.get? b := fun b hb => g1 b (decide_eq_true hb)
  have ge : G'.get? e = none := g2 e (by simp)
  have old : ∀ b o, hp.get? b = some o → G'.get? b = some o := fun b o q => (gk' b (Nat.ne_of_lt (Nat.lt_of_lt_of_le (Heap.lt_size q) M.new))).trans (M.keep b o q)
  have ob : L2.ObjOk X.prog X.w (upd H1 d (.xd (fs.zip vs).reverse)) G' d (.xd (fs.zip vs).reverse) :=
    ⟨_, hns.at (fun o q => (gk' d M.dne).trans q), fun f => (relL_zip r1).reverse.relO f⟩
  have J : L2.Inv X pins σ (upd H1 d (.xd (fs.zip vs).reverse)) ⟨G', g, dr, tk', os⟩ := I1.laid (t' := tk') old M.dbig ob
  refine ⟨e, oe, fv, ⟨G', g, dr, tk', os⟩, _, .ref C, some d, rfl, J, fun b o q => ?_, ge, hoe, ⟨hc, hd, fun vs' ev => ?_⟩, hdat, h1, ?_, rfl, I1.bare, raises_own T.exC T.tyC, q1 d (I1.hok.fresh M.dbig)⟩
  · by_cases hb : b = e
    · have q' : G'.get? b = some o := q
      rw [hb, ge] at q'; cases q'
    · exact (gk' b hb).symm.trans q
  · rw [hdat] at ev
    cases ev
    exact h2
  · rw [upd_ne (Ne.symm M.dne)]
    exact I1.hok.fresh M.new
end
end KSup
-- KHot
/-! the caught exception as a thing that is known (frozen), and what runs while it is handled -/
namespace KHot
open PySem PySem.Spec PyProof.Rows L2
/-- at a: an exception, its class, its dict; its context is None -/
def xcO (oe : Obj) : HO := .frz oe (.ext fun _ => True)
def XcAt (H : Hp) (a : Addr) (cls : Value) (d : Option Addr) : Prop := ∃ (oe : Obj) (vs : Array Value), H a = some (xcO oe) ∧ L2N.Zn cls d oe ∧ oe.data = .fields vs
theorem xcO_own {oe : Obj} {x : Addr} : xcO oe ≠ .own x := fun z => by
  unfold xcO at z
  cases z
section
variable {X : Cx} {pins : List (Addr × Obj)} {σ : L2.St} {H : Hp} {sI s' : Shared} {B : Heap}
theorem xc_ok {P : Program} {w : World} {h : Heap} {a : Addr} {oe : Obj} (e : h.get? a = some oe) : L2.ObjOk P w H h a (xcO oe) :=
  ⟨e, True.intro, ⟨oe, e⟩, fun _ _ _ _ => True.intro⟩
theorem landedT {a : Addr} {oe : Obj} (I : L2.Inv X pins σ H sI) (nb : ∀ b o, sI.heap.get? b = some o → b ∉ frs X.stack → B.get? b = some o) (st : B.StaysIn s'.heap) (up : sI.heap.UpToSlots s'.heap) (os : s'.os = sI.os) (ag : AllBare s'.gens)
    (nB : B.get? a = none) (na : H a = none) (nf : a ∉ frs X.stack) (he : s'.heap.get? a = some oe) : L2.Inv X pins σ (upd H a (xcO oe)) s' := by
  have nfx : ∀ b ∈ frs X.stack, ∀ o, sI.heap.get? b = some o → ∃ sl, s'.heap.get? b = some { o with slots := sl } := fun b hb o e => by
    obtain ⟨_, o', e', hd⟩ := I.stack.mem hb
    rw [e] at e'; cases e'
    exact up b o e hd
  have ne : ∀ b o, sI.heap.get? b = some o → b ≠ a := fun b o e z => by
    have q := nb b o e (by rw [z]; exact nf)
    rw [z, nB] at q
    cases q
  have hne : ∀ {b : Addr} {o : HO}, H b = some o → b ≠ a := fun {b o} e z => by
    rw [z, na] at e
    cases e
  have H0 : HOk X.prog X.w H s'.heap := (I.inGround nb).kept st
  have hok : HOk X.prog X.w (upd H a (xcO oe)) s'.heap := fun b o e => by
    by_cases hb : b = a
    · subst hb
      rw [upd_same] at e
      cases e
      exact xc_ok he
    · rw [upd_ne hb] at e
      exact (H0 b o e).stay (fun _ _ _ q => q) (fun c q => by rw [upd_ne (hne q)]; exact q) fun c xs q => by rw [upd_ne (hne q)]; exact q
  have J := I.call (ch := []) (h' := s'.heap) (g' := s'.gens) (t' := s'.toks) (d' := s'.drawn) (H' := upd H a (xcO oe))
    ⟨fun b o e _ hb _ => st b o (nb b o e hb), fun b o e _ hb _ => nfx b hb o e, fun b o e n _ => by rw [upd_ne (ne b o e)]; exact n, fun b o e _ => by
      by_cases hb : b ∈ frs X.stack
      · obtain ⟨sl, q⟩ := nfx b hb o e
        exact ⟨_, q⟩
      · exact ⟨o, st b o (nb b o e hb)⟩, fun b xs e => by rw [upd_ne (hne e)]; exact e, fun b o u e => by rw [upd_ne (hne e)]; exact e, fun b ps e => ⟨#[], by rw [upd_ne (hne e), e]; simp⟩⟩
    hok ag (fun _ z => nomatch z)
  obtain ⟨a1, a2, a3, a4, a5⟩ := s'
  have e5 : a5 = sI.os := os
  subst e5
  exact J
/-- into the suite, the exception known -/
theorem suiteT {s : Shared} (I : L2.Inv X pins σ H s) (a : Addr) : L2.Inv (X.suite a (X.pn ++ pins)) [] σ H s :=
  ⟨I.ok.suite _ _, I.os, I.bare, I.base, I.loc, I.cell, I.free, I.freeC, fun p hp => I.pin p (by rw [List.append_nil] at hp; exact hp), I.hok, I.len⟩
theorem unsuiteT {s : Shared} {a : Addr} {pn' : List (Addr × Obj)} (I : L2.Inv (X.suite a (X.pn ++ pins)) pn' σ H s) (ok : X.Ok) : L2.Inv X pins σ H s :=
  ⟨ok, I.os, I.bare, I.base, I.loc, I.cell, I.free, I.freeC, fun p hp => I.pin p (List.mem_append_left _ hp), I.hok, I.len⟩
end
/-- what the clause 'except x as n' wishes: the caught one stands as a known thing -/
def wAsT (K : PySem.W.Frag) (c : Value) (i : Nat) (ts : Addr → TS) (Wout : WX) (D : Ends) : WX := fun cls d σ H =>
  ∃ b, PySem.W.exmOne K cls c = some b ∧ (b = true → ∀ a oe, H a = none → XcAt (upd H a (xcO oe)) a cls d → ts a { nx := fun σ' H' => D.nx (σ'.set i none) H', rt := D.rt, bk := fun σ' H' => D.bk (σ'.set i none) H', ct := fun σ' H' => D.ct (σ'.set i none) H' } (σ.set i (some (.ref a))) (upd H a (xcO oe))) ∧
    (b = false → Wout cls d σ H)
section
variable {X : Cx} {x n : Str} {c : Value} {i : Nat} {body suite : List Stmt} {b₀ : Stmt} {np pos pos' : Pos} {tb : WX → TS} {ts : Addr → TS} {Wout : WX}
theorem ps_try_asT (hs : X.stack = X.env :: X.outer) (hf : X.env.frame = some X.env.locals) (hN : X.N.Nodup) (hi : X.N[i]? = some n) (hln : X.env.kindOf n = some .local) (hc : Names X x c) (tk : L2N.Takes X Wout)
    (hb : ∀ (W : WX) (pn : List (Addr × Obj)) (xe : Value → Shared → Prop), L2N.Takes (X.tr pn xe) W → PassesOwn (model X.prog X.w) X.A X.env xe → PSs (X.tr pn xe) body (tb W))
    (hsu : ∀ (a : Addr) (pn : List (Addr × Obj)), PSs (X.suite a pn) (b₀ :: suite) (ts a)) :
    PS X (.Try body [.ExceptHandler (some (.Name x np)) (some n) (b₀ :: suite) pos'] [] [] pos) (fun D σ H => tb (wAsT X.K c i ts Wout D) D σ H) := by
  refine ⟨fun pins s σ H D I h => ?_⟩
  have ok := I.ok
  have hfr : X.A.frames = some (X.env :: X.outer) := by rw [ok.frames, hs]
  have hloc : Loc X.env.scope n := .inl hln
  refine wpAny_Try_except ?_
  refine wpAny_mono ((hb (wAsT X.K c i ts Wout D) (X.pn ++ pins) (fun e s₁ => wpAny (model X.prog X.w) X.A (noteFrame e X.env) (fun _ s₂ => wpAny (model X.prog X.w) X.A (setFlight e none) (fun _ s₃ =>
    wpAny (model X.prog X.w) X.A (handleBy e X.env [.ExceptHandler (some (.Name x np)) (some n) (b₀ :: suite) pos']) (SP X pins D) X.xe s₃) X.xe s₂) X.xe s₁) (fun u s' xx => ?_) PassesOwn.looking).run [] s σ H D (I.toTry _) h) (fun f s1 hsp => ?_) (fun e s1 he => he)
  · -- the catch
    obtain ⟨a, B, sI, pins', σ', H', cls, d, rfl, J', nb, up, sky, na, os, ag, b, hb1, hyes, hno⟩ := xx
    have J : L2.Inv X pins σ' H' sI := J'.ofTry ok
    have sky' : Sky B (X.env :: X.outer) a (L2N.Zn cls d) X.env.locals s'.heap := by rw [← hs]; exact sky
    show wpAny (model X.prog X.w) X.A (noteFrame (.ref a) X.env) _ _ _
    refine L2N.Sky.land L2N.Zn.steady hfr hf sky' fun h3 fl3 up3 => ?_
    have J3 : L2.Inv X pins σ' H' { s' with heap := h3 } := J.landed nb fl3.1 (up.trans up3) os ag
    obtain ⟨oe3, vs3, he3, hz3, hd3⟩ := fl3.there
    have notFr : ∀ {h : Heap} {o : Obj} {vs : Array Value}, h.FunFrames B (X.env :: X.outer) → h.get? a = some o → o.data = .fields vs → a ∉ frs (X.env :: X.outer) := fun {h o vs} ff e dd hm => by
      obtain ⟨_, o', e', hnf⟩ := ff.mem hm
      rw [e] at e'; cases e'
      exact hnf _ dd
    have nfr := notFr fl3.2.2.1 he3 hd3
    have nL : a ≠ X.env.locals := fun z => nfr (List.mem_filterMap.mpr ⟨X.env, List.mem_cons_self, by rw [hf, z]⟩)
    have nF : a ∉ X.fs := fun hm => by
      obtain ⟨e, he, q⟩ := List.mem_filterMap.mp hm
      exact nfr (List.mem_filterMap.mpr ⟨e, List.mem_cons_of_mem _ he, q⟩)
    have S3 := J3.suite he3 hd3 na nL nF
    refine wpAny_handleBy_cons (codeAny_handlers_test ?_) (by intro q; cases q)
    have LT : PySem.W.Looks (model X.prog X.w) h3 (typeOf (.ref a)) cls := fun A Q E s k q => wpAny_typeOf_ref (k _ _ he3) (by rw [hz3.1]; exact q)
    have LM := PySem.W.exm_one (M := model X.prog X.w) (J3.kIn) LT hb1
    have test : ∀ {Q : Value → Shared → Prop} {E : Value → Shared → Prop}, Q c { s' with heap := h3 } → wpAny (model X.prog X.w) (X.A.mark (some (.ref a))) (eval (.Name x np) X.env) Q E { s' with heap := h3 } := fun {Q E} q => by
      obtain ⟨hg, hdbg, hm | ⟨hm, hv, hnn⟩⟩ := hc
      · exact ld_glob (X := X.suite a ((a, oe3) :: (X.pn ++ pins))) S3 hg hm q hdbg
      · exact ld_blt (X := X.suite a ((a, oe3) :: (X.pn ++ pins))) S3 hg hm hv q hnn hdbg
    refine test (LM.here ?_)
    cases b with
    | true =>
      refine codeAny_handlers_suite_as ?_
      refine HandSPX.lands_againZ fl3 fun h4 fl4 up4 => ?_
      obtain ⟨oe4, vs4, he4, hz4, hd4⟩ := fl4.there
      have J4 : L2.Inv X pins σ' (upd H' a (xcO oe4)) { s' with heap := h4 } := landedT J nb fl4.1 ((up.trans up3).trans up4) os ag fl4.2.1 na (by rw [hs]; exact nfr) he4
      have S4 := suiteT J4 a
      refine store_ok (X := X.suite a (X.pn ++ pins)) (v := .ref a) S4 hN hi hloc rfl (fun s5 S5 => ?_) (.inr hln)
      refine wpAny_mono ((hsu a (X.pn ++ pins)).run [] s5 _ (upd H' a (xcO oe4)) _ S5 (hyes rfl a oe4 na ⟨oe4, vs4, upd_same, hz4, hd4⟩)) (fun f s6 hsp => ?_) (fun _ _ z => False.elim z)
      have end_ : ∀ {σ6 : L2.St} {H6 : Hp} {Q : Shared → Prop}, L2.Inv (X.suite a (X.pn ++ pins)) [] σ6 H6 s6 → (∀ s7, L2.Inv X pins (σ6.set i none) H6 s7 → Q s7) →
          wpAny (model X.prog X.w) X.A (do bindName X.env n .none; unbindBehindTheSuite X.env n pos') (fun _ s7 => Q s7) X.xe s6 := fun {σ6 H6 Q} S6 hq => gone_ok (unsuiteT S6 ok) hN hi hln hq
      cases f with
      | next =>
        obtain ⟨σ6, H6, S6, q6⟩ := hsp
        exact end_ S6 fun s7 J7 => ⟨_, _, J7, q6⟩
      | brk =>
        obtain ⟨σ6, H6, S6, q6⟩ := hsp
        exact end_ S6 fun s7 J7 => ⟨_, _, J7, q6⟩
      | cont =>
        obtain ⟨σ6, H6, S6, q6⟩ := hsp
        exact end_ S6 fun s7 J7 => ⟨_, _, J7, q6⟩
      | ret u =>
        obtain ⟨v6, σ6, H6, S6, r6, q6⟩ := hsp
        exact end_ S6 fun s7 J7 => ⟨_, _, _, J7, r6, q6⟩
    | false =>
      show wpAny _ X.A (handleBy (.ref a) X.env []) _ _ _
      refine wpAny_handleBy_nil ?_
      obtain ⟨k1, k2, k3, oe, vs, T, oT, ts', he, hz, hd, h1, hr⟩ := id fl3
      unfold PySem.passOn
      refine wpAny_bind (wpAny_field he hd h1 ?_)
      rw [if_neg (show ¬ ((Value.ref T == Value.none) = true) from by simp)]
      have fin : wpAny (model X.prog X.w) X.A (setFlight (.ref a) X.env.frame) (fun _ s4 => wpAny (model X.prog X.w) X.A (throw (.ref a) : Sem Flow) (SP X pins D) X.xe s4) X.xe { s' with heap := h3 } := by
        rw [hf]
        refine HandSPX.setFlight_upZ fl3 fun h4 hh4 up4 => wpAny_throw (tk _ _ ?_)
        exact ⟨a, B, sI, pins, σ', H', cls, d, rfl, J, nb, (up.trans up3).trans up4, .inr (.inr (by rw [hs]; exact hh4)), na, os, ag, hno rfl⟩
      first
        | exact wpAny_bind (wpAny_pure (wpAny_bind fin))
        | exact wpAny_bind fin
  · cases f with
    | next =>
      obtain ⟨σ', H', J', q⟩ := hsp
      exact wpAny_execs_nil ⟨σ', H', J'.ofTry ok, q⟩
    | brk =>
      obtain ⟨σ', H', J', q⟩ := hsp
      exact ⟨σ', H', J'.ofTry ok, q⟩
    | cont =>
      obtain ⟨σ', H', J', q⟩ := hsp
      exact ⟨σ', H', J'.ofTry ok, q⟩
    | ret u =>
      obtain ⟨v, σ', H', J', r, q⟩ := hsp
      exact ⟨v, σ', H', J'.ofTry ok, r, q⟩
end
end KHot
-- KHot2
/-! defs that run while an exception is handled which is known -/
namespace KHot
open PySem PySem.Spec PyProof.Rows L2 L2H
/-- the handled one stands as a known thing -/
def HotO (A : Around) (H : Hp) : Prop := ∃ (a : Addr) (cls : Value) (d : Option Addr), A.handled = some (.ref a) ∧ XcAt H a cls d
def HotT (X : Cx) : Prop := HotO X.A X.H_0
theorem HotO.at {P : Program} {w : World} {A : Around} {H : Hp} {h : Heap} (c : HotO A H) (k : HOk P w H h) : ∃ x1, HotX.HotAt A x1 h := by
  obtain ⟨a, cls, d, hh, oe, vs, e, z, hd⟩ := c
  exact ⟨a, hh, oe, vs, (k a _ e).1, hd, z.2.2 vs hd⟩
theorem HotO.keep {A : Around} {fs ex : List Addr} {H H' : Hp} {h h' : Heap} (c : HotO A H) (u : Un fs ex H H' h h') : HotO A H' := by
  obtain ⟨a, cls, d, hh, oe, vs, e, z, hd⟩ := c
  exact ⟨a, cls, d, hh, oe, vs, u.frzs _ _ _ e, z, hd⟩
section
variable {X : Cx} {pins : List (Addr × Obj)} {σ : L2.St} {H : Hp} {s : Shared}
theorem HotT.now (c : HotT X) (I : L2.Inv X pins σ H s) : HotO X.A H := c.keep I.base
theorem HotT.at (c : HotT X) (I : L2.Inv X pins σ H s) : ∃ x1, HotX.HotAt X.A x1 s.heap := (c.now I).at I.hok
end
structure FnT (P : Program) (w : World) (K : PySem.W.Frag) (mg : Str → Option Value) (base : Heap) (k : Nat) (f : Addr) (fd : FuncData) (ps : List Str) (sp : Sp) : Prop where
  len : ∀ vs H Q E, sp vs H Q E → vs.length = ps.length
  run : ∀ (A : Around) (outer : List Env) (s : Shared) (H : Hp) (args : Args) (us : List Value) (vs : List V) (Q : VK) (E : XK), RoomH k A → HotO A H → Env0 P w K mg base A outer s H → BindsTo s fd args (ps.zip us) → Vals vs us → sp vs H Q E →
    codeAny (model P w) A (.call (.ref f) args) (CR CX0 outer P w H s Q E) s
theorem FnT.mono {P : Program} {w : World} {K : PySem.W.Frag} {mg : Str → Option Value} {base : Heap} {j k : Nat} {f : Addr} {fd : FuncData} {ps : List Str} {sp : Sp} (F : FnT P w K mg base j f fd ps sp) (h : j ≤ k) : FnT P w K mg base k f fd ps sp :=
  ⟨F.len, fun A outer s H args us vs Q E hr => F.run A outer s H args us vs Q E (hr.mono h)⟩
abbrev cxT (P : Program) (w : World) (K : PySem.W.Frag) (mg : Str → Option Value) (base : Heap) (N : List Str) (qual : Str) (scope : Scope) (f : Addr) (cd : Value) (A : Around) (outer : List Env) (s : Shared) (H : Hp) (E : XK) : Cx :=
  { cxOf CX0 P w K mg base N qual scope f cd A outer s H E with calm := false }
theorem cxT_hot {P : Program} {w : World} {K : PySem.W.Frag} {mg : Str → Option Value} {base : Heap} {N : List Str} {qual : Str} {scope : Scope} {f : Addr} {cd : Value} {A : Around} {outer : List Env} {s : Shared} {H : Hp} {E : XK} (c : HotO A H) : HotT (cxT P w K mg base N qual scope f cd A outer s H E) := c
/-- not calm: all else as it is -/
theorem uncalm {X : Cx} {pins : List (Addr × Obj)} {σ : L2.St} {H : Hp} {s : Shared} (A : Around) (xe : Value → Shared → Prop) (hf : A.frames = X.A.frames) (I : L2.Inv X pins σ H s) : L2.Inv { X with A := A, calm := false, xe := xe } pins σ H s :=
  have ok := I.ok
  ⟨⟨ok.mod, ok.kind, ok.glob, ok.blt, ok.above, ok.inj, ok.has, ok.cab, (fun z => Bool.noConfusion (show false = true from z)), hf.trans ok.frames, ok.stk, ok.exf, ok.bs, ok.bsz, ok.noex, ok.exfs, ok.funs, ok.frf⟩, I.os, I.bare, I.base, I.loc, I.cell, I.free, I.freeC, I.pin, I.hok, I.len⟩
section
variable {P : Program} {w : World} {K : PySem.W.Frag} {mg : Str → Option Value} {base : Heap}
/-- the rule for a def's body -/
theorem okT {x qual : Str} {st : Stmt} {f : Addr} {fd : FuncData} {N ps : List Str} {k : Nat} {sp : Sp} (F : Fun K x qual st f fd) (S : FnScope N ps (defScope st)) (len : ∀ vs H Q E, sp vs H Q E → vs.length = ps.length)
    (hbody : ∀ (cdv : Value) (A : Around) (outer : List Env) (s : Shared) (H : Hp) (vs : List V) (Q : VK) (E : XK), RoomH k (A.deeper (envOfC qual (defScope st) s.heap.objs.size f cdv)) → HotT (cxT P w K mg base N qual (defScope st) f cdv A outer s H E) → sp vs H Q E →
      ∃ t, PSs (cxT P w K mg base N qual (defScope st) f cdv A outer s H E).nox (defBody st) t ∧ t { nx := fun _ H' => Q .non H', rt := Q } (start N vs) H) : FnT P w K mg base (k + 1) f fd ps sp := by
  obtain ⟨oc, od, kV, doc, pm, an, cdv, ct, osl, rfl, lk, hcd⟩ := F.ex
  refine ⟨len, fun A outer s H args us vs Q E hr hot e0 hb r hsp => ?_⟩
  have hl := len _ _ _ _ hsp
  have KX : K.In s.heap := e0.mod.kin.keeps fun b o e => (e0.bs b o e).1
  have lim : s.heap.NoLimit := e0.mod.nolimit.keeps fun b o e => (e0.bs b o e).1
  refine codeAny_call_function hr.depth (KX _ _ lk) rfl S.co S.gen rfl (PySem.W.codeRec_of KX hcd) (hb _ _ _ _ ?_)
  refine wpAny_newFunctionEnv_cells S.kind (fun y hy => ?_) fun env he s1 z => ?_
  · rcases S.par y.1 (List.of_mem_zip hy).1 with q | q
    · exact .inl q
    · exact .inr ⟨q, PySem.W.cellsFrom_some _ _ _ (.inl q)⟩
  subst he
  refine ⟨lim.keeps z.toInCall.keep, codeAny_func ?_⟩
  obtain ⟨t, ht, hq⟩ := hbody cdv A outer s H vs Q E (hr.deeper _) hot hsp
  have I0 := inv_start (CX := CX0) (E := E) S (A := { A with handled := none }) rfl ⟨e0.frames, e0.mod, e0.bs, e0.bsz, e0.funs, e0.frf, e0.hok, e0.bare⟩ hl r z
  have I : L2.Inv (cxT P w K mg base N qual (defScope st) f cdv A outer s H E) [] (L2.start N vs) H s1 := uncalm (X := cxOf CX0 P w K mg base N qual (defScope st) f cdv { A with handled := none } outer s H E) (A.deeper (envOfC qual (defScope st) s.heap.objs.size f cdv)) _ (by rfl) I0
  refine wpAny_mono (ht.nox.run [] s1 (L2.start N vs) H _ I hq) (fun fl s' hs => ?_) fun e s' hs => hs
  have fin : ∀ {σ' : L2.St} {H' : Hp} {v : V} {u : Value}, L2.Inv (cxT P w K mg base N qual (defScope st) f cdv A outer s H E) [] σ' H' s' → RelV v u → Q v H' → CE outer P w H s Q u s' :=
    fun {σ' H' v u} J rv q => ⟨v, H', J.os, J.bare, J.base, J.hok, rv, q⟩
  cases fl with
  | ret u =>
    obtain ⟨v, σ', H', J, rv, q⟩ := hs
    exact fin J rv q
  | next =>
    obtain ⟨σ', H', J, q⟩ := hs
    exact fin (v := V.non) (u := Value.none) J rfl q
  | brk =>
    obtain ⟨_, _, _, q⟩ := hs
    exact False.elim q
  | cont =>
    obtain ⟨_, _, _, q⟩ := hs
    exact False.elim q
end
/-! calls -/
section
variable {X : Cx} {k : Nat} {f : Addr} {fd : FuncData} {ps : List Str} {sp : Sp} {x : Str} {q pos : Pos} {e : Expr} {es : List Expr} {t : TA}
theorem run_fnT {pins : List (Addr × Obj)} {σ : L2.St} {H : Hp} {s : Shared} {Q : VK} {us : List Value} {vs : List V} (F : FnT X.prog X.w X.K X.mg X.base k f fd ps sp) (hr : RoomH k X.A) (hc : HotO X.A H) (hb : Binds X.K fd ps [])
    (I : L2.Inv X pins σ H s) (r : Vals vs us) (h : sp vs H Q E0) : wpAny (model X.prog X.w) X.A (call (.ref f) us) (EP X pins σ Q) X.xe s := by
  have hl : us.length = ps.length := by rw [← r.length]; exact F.len _ _ _ _ h
  have b := hb s us I.kIn (by rw [List.append_nil]; exact hl)
  rw [List.append_nil] at b
  refine wpAny_call (codeAny_mono (F.run X.A X.stack s H ⟨us, []⟩ us vs Q E0 hr hc I.env0 b r h) fun r s' hq => ?_)
  cases r with
  | error e => exact False.elim hq
  | ok fl =>
    cases fl with
    | ret u => exact I.after hq
    | next => exact False.elim hq
    | brk => exact False.elim hq
    | cont => exact False.elim hq
/-- within a def that runs hot -/
theorem pe_callT (F : FnT X.prog X.w X.K X.mg X.base k f fd ps sp) (hr : RoomH k X.A) (hc : HotT X) (hg : Gl X x) (hm : X.mg x = some (.ref f)) (hk : PySem.W.keepIn X.K (.ref f) = true) (hb : Binds X.K fd ps [])
    (ha : PA X (e :: es) t) (hdb : (x == ("__debug__" : Str)) = false := by decide) (he : starEach (e :: es) X.env = (false, eval e X.env) :: starEach es X.env := by rfl) (hpl : (backTo pos (starEach es X.env)).any (·.1) = false := by rfl) :
    PE X (.Call (.Name x q) (e :: es) [] pos) (tCall sp [] E0 t) := by
  refine ⟨fun pins s σ H Q I h => ?_⟩
  refine wpAny_Call_Name_kw (ld_glob I hg hm ?_ hdb)
  refine PySem.W.callWith_K (h₀ := X.base) I.ok.mod.kin hk (thn (ha.run pos pins s σ H _ I h) fun us s1 ⟨vs, H1, I1, r, q⟩ => ⟨I1.kIn, ?_⟩) he hpl
  exact run_fnT F hr (hc.now I1) hb I1 r (by have q2 : sp (vs ++ []) H1 Q E0 := q; rwa [List.append_nil] at q2)
/-- in the suite -/
def tCallTs (a : Addr) (sp : Sp) (t : TA) : TE := fun σ H Q => t σ H fun vs H1 => (∃ cls d, XcAt H1 a cls d) ∧ sp vs H1 Q E0
theorem pe_callTs {a : Addr} (F : FnT X.prog X.w X.K X.mg X.base k f fd ps sp) (hr : RoomH k X.A) (hh : X.A.handled = some (.ref a)) (hg : Gl X x) (hm : X.mg x = some (.ref f)) (hk : PySem.W.keepIn X.K (.ref f) = true) (hb : Binds X.K fd ps [])
    (ha : PA X (e :: es) t) (hdb : (x == ("__debug__" : Str)) = false := by decide) (he : starEach (e :: es) X.env = (false, eval e X.env) :: starEach es X.env := by rfl) (hpl : (backTo pos (starEach es X.env)).any (·.1) = false := by rfl) :
    PE X (.Call (.Name x q) (e :: es) [] pos) (tCallTs a sp t) := by
  refine ⟨fun pins s σ H Q I h => ?_⟩
  refine wpAny_Call_Name_kw (ld_glob I hg hm ?_ hdb)
  refine PySem.W.callWith_K (h₀ := X.base) I.ok.mod.kin hk (thn (ha.run pos pins s σ H _ I h) fun us s1 ⟨vs, H1, I1, r, ⟨cls, d, hx⟩, q⟩ => ⟨I1.kIn, ?_⟩) he hpl
  exact run_fnT F hr ⟨a, cls, d, hh, hx⟩ hb I1 r q
end
end KHot
-- KHot3
/-! the known exception asked: isinstance, its fields -/
namespace KHot
open PySem PySem.Spec PyProof.Rows L2
section
variable {X : Cx}
theorem zn_inst {s : Shared} {pins : List (Addr × Obj)} {σ : L2.St} {H : Hp} {a D : Addr} {d : Option Addr} (I : L2.Inv X pins σ H s) (h : XcAt H a (.ref D) d) : ∃ oe, s.heap.get? a = some oe ∧ oe.cls = .ref D ∧ PySem.W.notCls oe = true ∧ oe.dict = d := by
  obtain ⟨oe, vs, e, z, hd⟩ := h
  exact ⟨oe, (I.hok a _ e).1, z.1, by unfold PySem.W.notCls; rw [hd] <;> rfl, z.2.1⟩
/-- isinstance(e, c), e the known exception, its dict dd known -/
def rIsX (K : PySem.W.Frag) : List V → Hp → VK → Prop := fun xs H Q => ∃ (a D dd : Addr) (fs : List (Str × V)) (c : V) (cv : Value) (b : Bool), xs = [.ref a, c] ∧ XcAt H a (.ref D) (some dd) ∧ H dd = some (.xd fs) ∧ ExcC K D ∧ (∀ u, RelV c u → u = cv) ∧ PySem.W.kitOne K (.ref D) cv = some b ∧ Q (.bl b) H
theorem call_isX : CallR X (.builtin "isinstance") (rIsX X.K) := by
  intro pins s σ H xs us Q I r h
  obtain ⟨a, D, dd, fs, c, cv, b, rfl, hx, hxd, C, hcv, e, q⟩ := h
  cases r with
  | cons rx rr =>
    cases rr with
    | cons rt rr =>
      cases rr
      cases rx
      have ec := hcv _ rt
      subst ec
      obtain ⟨oe, h1, h2, h3, h4⟩ := zn_inst I hx
      obtain ⟨mA, ⟨od, es, ep, ho, _⟩, _⟩ : L2.ObjOk X.prog X.w H s.heap dd (.xd fs) := I.hok dd _ hxd
      have J : PySem.W.InstAt s.heap a oe D (some od) := ⟨h1, h2, h3, by rw [h4]; exact ho⟩
      have hcl : (PySem.W.clsIn X.K D).isSome = true := by
        obtain ⟨cd, hc, _⟩ := PySem.W.any_some C.hd
        rw [hc]
        rfl
      exact PySem.W.kia_one (PySem.W.kitx_exc hcl C.hg C.hk C.hs C.ha C.hn C.ht C.hm) I.kIn J e (fun z => nomatch z) fun tk => ⟨.bl b, H, I.kept (t' := tk) fun _ _ z => z, rfl, q⟩
/-- e.f -/
def tXa (K : PySem.W.Frag) (f : Str) (te : TE) : TE := fun σ H Q => te σ H fun x H1 => ∃ (a C dd : Addr) (fs : List (Str × V)) (v : V), x = .ref a ∧ XcAt H1 a (.ref C) (some dd) ∧ H1 dd = some (.xd fs) ∧ fs.lookup f = some v ∧ XfC K C ∧ PySem.W.findIn K (.ref C) f = some none ∧ Q v H1
theorem pe_xa {e : Expr} {te : TE} {pos : Pos} {n : Str} (he : PE X e te) (hb : attributeBase e n X.env (eval e X.env) = eval e X.env := by rfl) : PE X (.Attribute e n pos) (tXa X.K n te) := by
  refine ⟨fun pins s σ H Q I h => attr_of hb (thn (he.run pins s σ H _ I h) fun u s1 hh => ?_)⟩
  obtain ⟨y, H1, I1, ry, a, C, dd, fs, v, rfl, hx, ea, l, T, hno, q⟩ := hh
  obtain rfl : u = Value.ref a := ry
  obtain ⟨oe, h1, h2, h3, h4⟩ := zn_inst I1 hx
  obtain ⟨mA, hns, hr⟩ : L2.ObjOk X.prog X.w H1 s1.heap dd (.xd fs) := I1.hok dd _ ea
  obtain ⟨od, ho, hl⟩ := lookIn_ns hns
  obtain ⟨u, hu, ru⟩ := RelO.some_of (v := v) (o := mA n) (by rw [← l]; exact hr n)
  exact HandSPX.exc_get I1.kIn ⟨h1, h2, h3, by rw [h4]; exact ho⟩ T.ga T.gg T.exC (PySem.W.findObj_own T.hdC hno rfl (by rw [hl, hu])) (handed_of ru) ⟨v, H1, I1.tok _, ru, q⟩
end
end KHot
-- KHot4
/-! [elt for x in range(n) if test] while an exception is handled that is known -/
namespace KHot
open PySem PySem.Spec PyProof.Rows L2 L2H
section
variable {X : Cx} {pins : List (Addr × Obj)} {σ : L2.St} {H : Hp} {s : Shared}
/-- the i-th turn of a range's iterator, at n -/
def RgAt (it : Addr) (n i : Nat) (h : Heap) : Prop := IsRangeIter h it ((i : Nat) : Int) ((n : Int) - (i : Nat)) 1
theorem RgAt.keep {it : Addr} {n i : Nat} {h h' : Heap} (r : RgAt it n i h) (k : ∀ o, h.get? it = some o → h'.get? it = some o) : RgAt it n i h' := k _ r
theorem rg_item {it : Addr} {n i : Nat} {tg : Expr} {E : Value → Shared → Prop} (I : L2.Inv X pins σ H s) (f : FpOk X pins H it) (st : RgAt it n i s.heap) (hi : i < n) :
    wpAny (model X.prog X.w) X.A (pyNext (.ref it)) (fun r s1 => ∃ u, r = some u ∧ RelV (.int (i : Int)) u ∧
      wpAny (model X.prog X.w) X.A (letOwnedTupleGo tg (.ref it) u) (fun _ s2 => L2.Inv X pins σ H s2 ∧ RgAt it n (i + 1) s2.heap) E s1) E s := by
  obtain ⟨f0, f1, f2, f3, f4, f5⟩ := f
  refine wpAny_pyNext_range_item st (by omega) fun h' st' sb => ⟨_, rfl, ⟨s.toks, rfl⟩, ?_⟩
  have e1 : ((i : Nat) : Int) + 1 = ((i + 1 : Nat) : Int) := by omega
  have e2 : (n : Int) - ((i : Nat) : Int) - 1 = (n : Int) - ((i + 1 : Nat) : Int) := by omega
  rw [e1, e2] at st'
  have J : L2.Inv X pins σ H { s with heap := h', toks := s.toks + 1 } := I.turned (fun b o hb e => (sb.2 b hb).trans e) f0 f1 f3 f4 f5
  exact go_of (s := { s with heap := h', toks := s.toks + 1 }) (n := "range_iterator") st' rfl rfl (by decide) ⟨J, st'⟩
theorem rg_done {it : Addr} {n i : Nat} {E : Value → Shared → Prop} (c : HotT X) (I : L2.Inv X pins σ H s) (f : FpOk X pins H it) (st : RgAt it n i s.heap) (hi : n ≤ i) :
    wpAny (model X.prog X.w) X.A (pyNext (.ref it)) (fun r s1 => r = none ∧ L2.Inv X pins σ H s1) E s := by
  obtain ⟨f0, f1, f2, f3, f4, f5⟩ := f
  obtain ⟨x1, hot⟩ := c.at I
  exact HotX.pyNext_range_end_hot hot st (by omega) fun h' eb => ⟨rfl, I.turned (t' := s.toks) (fun b o _ e => eb b o e) f0 f1 f3 f4 f5⟩
/-- range(a)'s iterator -/
theorem rg_start {a : Expr} {ta : TA} {p pos : Pos} {R : It → Hp → Prop} (hg : Gl X "range") (hm : X.mg "range" = none) (ha : PA X [a] ta) (I : L2.Inv X pins σ H s) (h : iRng1 ta σ H R)
    (hs : starEach [a] X.env = [(false, eval a X.env)] := by rfl) :
    wpAny (model X.prog X.w) X.A (eval (.Call (.Name "range" p) [a] [] pos) X.env) (fun v s1 => wpAny (model X.prog X.w) X.A (pyIter v) (fun itv s2 => ∃ (it : Addr) (n : Nat) (H1 : Hp), itv = .ref it ∧ L2.Inv X pins σ H1 s2 ∧ RgAt it n 0 s2.heap ∧ FpOk X pins H1 it ∧ R (Itr 0 n) H1) X.xe s1) X.xe s := by
  refine Call_ (ld_blt I hg hm boot_range (PyProof.Rows.callWith_type1 (thn (ha.run pos pins s σ H _ I h) fun us s1 ⟨vs, H1, I1, r1, j, e, hj, hn, q⟩ => ?_) hs rfl))
  subst e
  cases r1 with
  | cons r rr =>
    cases rr
    obtain ⟨t, rfl⟩ := r
    refine call_range_1 ?_
    refine wpAny_pyIter_range (IsRange.new ..) (small_one (by omega) (by omega) (by omega) (by omega)) ?_
    have z : (Builtin.Range.rangeSize 0 j 1 : Int) = (j.toNat : Int) - ((0 : Nat) : Int) := by
      rw [rangeSize_one]
      split <;> omega
    generalize hq : s1.heap.push _ = h1
    have k1 : ∀ b o, s1.heap.get? b = some o → h1.get? b = some o := fun b o e => by rw [← hq]; exact Heap.get?_push_of_some _ e
    have I2 : L2.Inv X pins σ H1 { s1 with heap := h1 } := I1.kept (t' := s1.toks) k1
    refine ⟨h1.objs.size, j.toNat, H1, rfl, ?_, ?_, I2.fpOk (Nat.le_refl _) (I2.hok.fresh (Nat.le_refl _)), q⟩
    · exact I2.kept fun b o e => Heap.get?_push_of_some _ e
    · unfold RgAt
      rw [← z]
      exact Heap.get?_push_size _ rfl
/-- the def's own names, in a block that begins -/
theorem hot_blk {s : Shared} {scope : Scope} {ce : Env} {fp : List Addr} (c : HotO X.A H) : HotT (X.blk s H scope ce fp) := c
theorem lcT_core {elt tg a : Expr} {ifs : List Expr} {scope : Scope} {own : List (Str × Nat)} {pos pos' p q : Pos} {ta : TA} {g : TG} {tt : TT} {te : TE} {use : Option (Value → Sem Unit)} {Qf : Value → Shared → Prop} {Q : VK}
    (hot : HotT X) (hN : X.N.Nodup) (I : L2.Inv X pins σ H s) (hgr : Gl X "range") (hmr : X.mg "range" = none) (ha : PA X [a] ta) (ok : BlkOk X.N X.env.scope scope own)
    (hb : ∀ (s : Shared) (H : Hp) (C : Addr) (cl : List (Str × Addr)) (fp : List Addr), HotT (X.blk s H scope (compEnvC scope cl C X.env) fp) → PG (X.blk s H scope (compEnvC scope cl C X.env) fp) tg g ∧ PTs (X.blk s H scope (compEnvC scope cl C X.env) fp) ifs tt ∧ PE (X.blk s H scope (compEnvC scope cl C X.env) fp) elt te)
    (hst : starEach [a] X.env = [(false, eval a X.env)]) (hs : ∀ x, foldedSetIterable (.Call (.Name "range" p) [a] [] q) X.env x = pure x) (h : tLc (iRng1 ta) g tt te (own.map (·.2)) σ H Q)
    (fin : ∀ D C s' m H', L2.Inv X pins σ H' s' → Q (.ref D) H' → s'.heap.Ns C m → FpOk X pins H' C → compPost (model X.prog X.w) X.A X.xe use Qf (.ref D) C (.ok .next) s') :
    wpAny (model X.prog X.w) X.A (comprehension (.ListComp elt [⟨tg, .Call (.Name "range" p) [a] [] q, ifs, 0⟩] scope pos) scope X.env pos' (newList []) false (eval (.Call (.Name "range" p) [a] [] q) X.env) use) Qf X.xe s := by
  have hfr : ∀ y ∈ scope.names, y.2 = .free → ∃ c, X.env.cells.lookup y.1 = some c := fun y hy e => I.ok.has _ (ok.free y hy e)
  refine wpAny_comprehension_free (use := use) rfl hs (closure_ok hfr) ok.kind (fun y hy e => by rw [ok.uniq y hy, e]) (thn (rg_start hgr hmr ha I h hst) fun v0 s1 h1 => thn h1 fun itv s2 h2 => ?_)
  obtain ⟨it, n, H2, e, I2, r2, f2, q2⟩ := h2
  subst e
  refine wpAny_newObj_type (newEnv_comp ?_) (by show 0 ≤ sizeLine; decide)
  -- the new list, at D
  obtain ⟨D, hD⟩ : ∃ D, s2.heap.objs.size = D := ⟨_, rfl⟩
  rw [hD]
  obtain ⟨W, ⟨m0, w0⟩, turn⟩ := q2 D (I2.hok.fresh (Nat.le_of_eq hD))
  have itD : it < D := by rw [← hD]; exact Heap.lt_size r2
  obtain ⟨s3, hs3⟩ : ∃ s3 : Shared, ({ s2 with heap := s2.heap.push { cls := .type "list", data := .seq ([] : List Value).toArray } } : Shared) = s3 := ⟨_, rfl⟩
  have h3 : s3.heap = s2.heap.push { cls := .type "list", data := .seq ([] : List Value).toArray } := by rw [← hs3]
  have I3 : L2.Inv X pins σ (upd H2 D (.lst [])) s3 := by
    rw [← hs3, ← hD]
    exact I2.laid (t' := s2.toks) (fun b o e => Heap.get?_push_of_some _ e) (Nat.le_refl _) ⟨Nat.zero_le _, [], 0, .nil, Heap.get?_push_size _ rfl⟩
  have f3 : FpOk X pins (upd H2 D (.lst [])) it := ⟨by rw [upd_ne (Nat.ne_of_lt itD)]; exact f2.1, f2.2⟩
  have sz3 : it < s3.heap.objs.size := by rw [h3, Heap.size_push, hD]; exact Nat.lt_succ_of_lt itD
  have f3' : ∀ b ∈ [it], FpOk X pins (upd H2 D (.lst [])) b ∧ b < s3.heap.objs.size := fun b hb => by
    rw [List.mem_singleton.mp hb]
    exact ⟨f3, sz3⟩
  have I4 := block_start I3 ok hN f3'
  obtain ⟨pg, pt, pe⟩ := hb s3 (upd H2 D (.lst [])) s3.heap.objs.size (cellsFrom (s3.heap.objs.size + 1) scope.names (cloFrom X.env.cells scope.names [])) [it] (hot_blk (hot.now I3))
  have hotB : HotT (X.blk s3 (upd H2 D (.lst [])) scope (compEnvC scope (cellsFrom (s3.heap.objs.size + 1) scope.names (cloFrom X.env.cells scope.names [])) s3.heap.objs.size X.env) [it]) := hot_blk (hot.now I3)
  have r4 : RgAt it n 0 (pushCells (s3.heap.push { cls := .type "dict", data := .dict #[] }) scope.names) := r2.keep fun o e => pushCells_keeps _ _ _ _ (Heap.get?_push_of_some _ (by rw [h3]; exact Heap.get?_push_of_some _ e))
  rw [hs3]
  show codeAny _ _ (.compStart (.ListComp elt [⟨tg, .Call (.Name "range" p) [a] [] q, ifs, 0⟩] scope pos) 0 (.ref it) (.ref D) (compEnvC scope (cellsFrom (s3.heap.objs.size + 1) scope.names (cloFrom X.env.cells scope.names [])) s3.heap.objs.size X.env)) (compPost (model X.prog X.w) X.A X.xe use Qf (.ref D) s3.heap.objs.size) { s3 with heap := pushCells (s3.heap.push { cls := .type "dict", data := .dict #[] }) scope.names }
  generalize hce : compEnvC scope (cellsFrom (s3.heap.objs.size + 1) scope.names (cloFrom X.env.cells scope.names [])) s3.heap.objs.size X.env = ce at I4 pg pt pe hotB ⊢
  have cL : ce.locals = s3.heap.objs.size := by rw [← hce]; rfl
  generalize upd H2 D (.lst []) = H3 at I3 I4 pg pt pe w0 f3 f3' hotB
  obtain ⟨s4, hs4⟩ : ∃ s4 : Shared, ({ s3 with heap := pushCells (s3.heap.push { cls := .type "dict", data := .dict #[] }) scope.names } : Shared) = s4 := ⟨_, rfl⟩
  have r4' : RgAt it n 0 s4.heap := by rw [← hs4]; exact r4
  rw [hs4] at I4 ⊢
  have stat : ∀ {σ' : L2.St} {H' : Hp} {s' : Shared}, L2.Inv (X.blk s3 H3 scope ce [it]) [] σ' H' s' → H' it = none → ∀ b ∈ [it], FpOk (X.blk s3 H3 scope ce [it]) [] H' b := fun {σ' H' s'} I' hn b hb => by
    have hx := I'.ok.exf b hb
    have eb := List.mem_singleton.mp hb
    exact ⟨by rw [eb]; exact hn, hx.1, I'.ok.exfs b hb, .inl hb, fun x c e => hx.2 x c e, fun p hp => by cases hp⟩
  have obj : ∀ {j : Nat} {h : Heap}, RgAt it n j h → ∀ b ∈ [it], ∃ o, h.get? b = some o ∧ ∀ v, o.data ≠ .cell v := fun {j h} r b hb => by
    rw [List.mem_singleton.mp hb]
    exact ⟨_, r, fun v z => nomatch z⟩
  have one : it ∈ [it] := List.mem_singleton.mpr rfl
  have loop : codeAny (model X.prog X.w) X.A (.compLoop (.ListComp elt [⟨tg, .Call (.Name "range" p) [a] [] q, ifs, 0⟩] scope pos) 0 (.ref it) (.ref D) ce) (compPost (model X.prog X.w) X.A X.xe use Qf (.ref D) s3.heap.objs.size) s4 := by
    refine compLoop_any (fun m s' => ∃ i H', L2.Inv (X.blk s3 H3 scope ce [it]) [] (wipe σ (own.map (·.2))) H' s' ∧ RgAt it n i s'.heap ∧ H' it = none ∧ W i m H') ?_ m0 ⟨0, H3, I4, r4', f3.1, w0⟩
    rintro m s5 ⟨i, H5, I5, r5, n5, w5⟩
    rcases turn i m H5 w5 with ⟨stop, qq⟩ | ⟨go, Nx, hNx, step⟩
    · refine thnF (rg_done (X := X.blk s3 H3 scope ce [it]) (E := fun _ _ => False) hotB I5 (stat I5 n5 it one) r5 stop) fun r s6 ⟨hr, I6⟩ => ?_
      subst hr
      have I7 : L2.Inv X pins σ H5 s6 := I3.call' (ch := [it]) I6.os I6.base I6.hok I6.bare fun b hb => by
        obtain ⟨⟨_, g1, _, g3, g4, g5⟩, _⟩ := f3' b hb
        exact ⟨g3, g1, g4, g5⟩
      have nC : H5 s3.heap.objs.size = none := by rw [← cL]; exact I6.free
      obtain ⟨mL, hn, _⟩ := I6.loc
      exact fin D s3.heap.objs.size s6 mL H5 I7 qq (by rw [← cL]; exact hn) (I3.fpOk (Nat.le_refl _) nC)
    · refine thnF (rg_item (X := X.blk s3 H3 scope ce [it]) (tg := tg) (E := fun _ _ => False) I5 (stat I5 n5 it one) r5 go) fun r s6 ⟨u, hr, ru, h6⟩ => ?_
      subst hr
      refine thnF h6 fun _ s7 ⟨I7, r7⟩ => ?_
      have I8 := I7.pinned (stat I7 n5) (obj r7)
      have ru' : RelV (.int (0 + (i : Int))) u := by rw [Int.zero_add]; exact ru
      refine thnF (pg.run _ s7 _ H5 _ u _ I8 ru' (step _ H5 ⟨rfl, rfl⟩)) fun _ s8 ⟨σ8, H8, I9, hw8, q8⟩ => ?_
      refine thnF (pt.run _ s8 σ8 H8 _ I9 q8) fun b s9 ⟨H9, I10, q9⟩ => ?_
      have endT : ∀ {s' : Shared} {H' : Hp}, L2.Inv (X.blk s3 H3 scope ce [it]) ([] ++ pinsAt [it] s7.heap) σ8 H' s' → Nx H' → ∃ m2, m2 < m ∧ ∃ i H', L2.Inv (X.blk s3 H3 scope ce [it]) [] (wipe σ (own.map (·.2))) H' s' ∧ RgAt it n i s'.heap ∧ H' it = none ∧ W i m2 H' := fun {s' H'} I' nx => by
        obtain ⟨m', hm, w'⟩ := hNx H' nx
        obtain ⟨g1, g2, _⟩ := I'.pin _ (List.mem_append_right _ (List.mem_append_right _ (mem_pinsAt one r7)))
        refine ⟨m', hm, i + 1, H', (I'.unpinned (pins := [])).weak (by rw [← hw8, wipe_length]) (fun j v e => ?_), g1, g2, w'⟩
        rw [← hw8] at e
        exact (wipe_some e).1
      cases b with
      | false =>
        simp only [Bool.false_eq_true, if_false] at q9 ⊢
        exact endT I10 q9
      | true =>
        simp only [if_true] at q9 ⊢
        refine thnF (pe.run _ s9 σ8 H9 _ I10 q9) fun z s10 ⟨yv, H10, I11, r10, acc, hD10, hz10, nx⟩ => ?_
        exact app_ok (X := X.blk s3 H3 scope ce [it]) I11 hD10 hz10 r10 fun s11 I12 => endT I12 nx
  exact codeAny_compStart_list loop (wpAny_pyIter_rangeiter r4' loop)
theorem pe_lcT {elt tg a : Expr} {ifs : List Expr} {scope : Scope} {own : List (Str × Nat)} {pos p q : Pos} {ta : TA} {g : TG} {tt : TT} {te : TE} (hot : HotT X) (hN : X.N.Nodup) (hgr : Gl X "range") (hmr : X.mg "range" = none) (ha : PA X [a] ta) (ok : BlkOk X.N X.env.scope scope own)
    (hb : ∀ (s : Shared) (H : Hp) (C : Addr) (cl : List (Str × Addr)) (fp : List Addr), HotT (X.blk s H scope (compEnvC scope cl C X.env) fp) → PG (X.blk s H scope (compEnvC scope cl C X.env) fp) tg g ∧ PTs (X.blk s H scope (compEnvC scope cl C X.env) fp) ifs tt ∧ PE (X.blk s H scope (compEnvC scope cl C X.env) fp) elt te)
    (hst : starEach [a] X.env = [(false, eval a X.env)] := by rfl) (hs : ∀ x, foldedSetIterable (.Call (.Name "range" p) [a] [] q) X.env x = pure x := by intro _; rfl) :
    PE X (.ListComp elt [⟨tg, .Call (.Name "range" p) [a] [] q, ifs, 0⟩] scope pos) (tLc (iRng1 ta) g tt te (own.map (·.2))) := by
  refine ⟨fun pins s σ H Q I h => ?_⟩
  rw [eval_ListComp]
  refine lcT_core hot hN I hgr hmr ha ok hb hst hs h fun D C s' m H' J z hn f => ⟨m, hn, fun h2 sb => ?_⟩
  obtain ⟨g0, g1, _, g3, g4, g5⟩ := f
  exact ⟨.ref D, H', J.turned (t' := s'.toks) (fun b o hb e => (sb.2 b hb).trans e) g0 g1 g3 g4 g5, rfl, z⟩
end
end KHot
-- E6
namespace K01
open PySem PySem.Spec PyProof.Rows L2 L2H Evl KEv TL KDd KSq KSame KHot
/-! _law_same, of any depth, calm and hot -/
/-- None, a truth value, a whole number or a text -/
def flatS : V → Bool
  | .non => true
  | .bl _ => true
  | .int _ => true
  | .str _ => true
  | _ => false
structure NmS (mg : Str → Option Value) : Prop where
  isi : mg "isinstance" = none
  bool : mg "bool" = none
  int : mg "int" = none
  str : mg "str" = none
  dict : mg "dict" = none
  tuple : mg "tuple" = none
  list : mg "list" = none
  range : mg "range" = none
/-- two values that hold the same, to the depth n -/
def SameN : Nat → Hp → V → V → Prop
  | 0, _, x, y => x = y ∧ flatS x = true
  | n + 1, H, x, y => (x = y ∧ flatS x = true) ∨ ∃ (a b : Addr) (xs ys : List V), x = .ref a ∧ y = .ref b ∧ xs.length = ys.length ∧ xs.length ≤ 10000 ∧
    ((H a = some (.lst xs) ∧ H b = some (.lst ys)) ∨ (H a = some (.tup xs) ∧ H b = some (.tup ys))) ∧ ∀ (i : Nat) (u v : V), xs[i]? = some u → ys[i]? = some v → SameN n H u v
theorem SameN.mono : ∀ {n : Nat} {H H' : Hp} {x y : V}, SameN n H x y → Ex H H' → SameN n H' x y
  | 0, _, _, _, _, h, _ => ⟨h.1, h.2⟩
  | n + 1, _, _, _, _, h, e => by
    rcases h with h | ⟨a, b, xs, ys, h1, h2, h3, h4, h5, h6⟩
    · exact .inl h
    · exact .inr ⟨a, b, xs, ys, h1, h2, h3, h4, h5.imp (fun q => ⟨e _ _ q.1, e _ _ q.2⟩) (fun q => ⟨e _ _ q.1, e _ _ q.2⟩), fun i u v p q => (h6 i u v p q).mono e⟩
def spSame (n : Nat) : Sp := fun vs H Q _ => ∃ x y, vs = [x, y] ∧ SameN n H x y ∧ RetV (.bl true) H Q
section
variable {P : Program} {w : World} {K : PySem.W.Frag} {mg : Str → Option Value} {base : Heap}
theorem scSame : FnScope ["told", "due", "key", "k"] ["told", "due"] (defScope (topS 20)) := ⟨rfl, rfl, rfl, by decide +kernel, rfl, by decide +kernel, by decide +kernel⟩
theorem ok_same0 {f : Addr} {fd : FuncData} (D : DefAt K mg 20 "_law_same" ["told", "due"] f fd) (N : Nm mg) (M : NmS mg) : FnOk P w K mg base CX0 1 f fd ["told", "due"] (spSame 0) := by
  refine D.F.ok scSame (fun vs H Q E h => ?_) (fun cdv A outer s H vs Q E hr h => ?_)
  · obtain ⟨x, y, rfl, _⟩ := h
    rfl
  · obtain ⟨x, y, rfl, hS, k⟩ := h
    refine ⟨_, pss_cons (ps_if (PW.pt (pw_or (pt_val (pe_callB call_isi (by rfl) M.isi (by decide +kernel) (pa_cons (pv 0) (pa_cons (pe_bltn (v := .ty "bool") (by rfl) M.bool (by decide +kernel) rfl) pa_nil)))) (pw_or1 (pt_val (pe_callB call_isi (by rfl) M.isi (by decide +kernel) (pa_cons (pv 1) (pa_cons (pe_bltn (v := .ty "bool") (by rfl) M.bool (by decide +kernel) rfl) pa_nil))))))) (pss_one (ps_ret (pe_and (pe_callB call_isi (by rfl) M.isi (by decide +kernel) (pa_cons (pv 0) (pa_cons (pe_bltn (v := .ty "bool") (by rfl) M.bool (by decide +kernel) rfl) pa_nil))) (pe_and (pe_callB call_isi (by rfl) M.isi (by decide +kernel) (pa_cons (pv 1) (pa_cons (pe_bltn (v := .ty "bool") (by rfl) M.bool (by decide +kernel) rfl) pa_nil))) (pe_one (pe_cmpR op_eq (pv 0) (pv 1) (nomark _))))))) pss_nil) (pss_cons (ps_if (PW.pt (pw_or (pt_cmpR op_isNon (pv 0) pe_non (nomark _)) (pw_or1 (pt_cmpR op_isNon (pv 1) pe_non (nomark _))))) (pss_one (ps_ret (pe_and (pe_cmpR op_isNon (pv 0) pe_non (nomark _)) (pe_one (pe_cmpR op_isNon (pv 1) pe_non (nomark _)))))) pss_nil) (pss_cons (ps_if (PW.pt (pw_or (pt_val (pe_callB call_isi (by rfl) M.isi (by decide +kernel) (pa_cons (pv 1) (pa_cons (pe_bltn (v := .ty "int") (by rfl) M.int (by decide +kernel) rfl) pa_nil)))) (pw_or1 (pt_val (pe_callB call_isi (by rfl) M.isi (by decide +kernel) (pa_cons (pv 1) (pa_cons (pe_bltn (v := .ty "str") (by rfl) M.str (by decide +kernel) rfl) pa_nil))))))) (pss_one (ps_ret (pe_and (pe_cmpR op_eq (pe_callB call_isi (by rfl) M.isi (by decide +kernel) (pa_cons (pv 0) (pa_cons (pe_bltn (v := .ty "int") (by rfl) M.int (by decide +kernel) rfl) pa_nil))) (pe_callB call_isi (by rfl) M.isi (by decide +kernel) (pa_cons (pv 1) (pa_cons (pe_bltn (v := .ty "int") (by rfl) M.int (by decide +kernel) rfl) pa_nil))) (nomark _)) (pe_and (pe_cmpR op_eq (pe_callB call_isi (by rfl) M.isi (by decide +kernel) (pa_cons (pv 0) (pa_cons (pe_bltn (v := .ty "str") (by rfl) M.str (by decide +kernel) rfl) pa_nil))) (pe_callB call_isi (by rfl) M.isi (by decide +kernel) (pa_cons (pv 1) (pa_cons (pe_bltn (v := .ty "str") (by rfl) M.str (by decide +kernel) rfl) pa_nil))) (nomark _)) (pe_one (pe_cmpR op_eq (pv 0) (pv 1) (nomark _))))))) pss_nil) pss_never)), ?_⟩
    obtain ⟨rfl, hx⟩ := hS
    cases x with
    | non =>
      have ty : ∀ H0, Ex H H0 → ∀ H1, Ex H0 H1 → TyX K H1 .non (.type "NoneType") := fun _ _ _ _ => .base .non
      refine q_when (b := false) (et_or (a := false) (b := false) (et_B (ev_isi (ev_var rfl) (ty _ (Ex.refl H)) (by decide +kernel))) fun _ => et_B (ev_isi (ev_var rfl) (ty _ (Ex.refl H)) (by decide +kernel))) (fun z => by cases z) (fun _ H1 e1 => ?_)
      refine q_when (b := true) (et_is (et_or (et_test (ev_op (ev_var rfl) ev_c rv_isN)) fun _ => et_test (ev_op (ev_var rfl) ev_c rv_isN)) (by simp)) (fun _ H2 e2 => ?_) (fun z => by cases z)
      exact s_ret (ev_is (ev_andV (a := true) (ev_is (ev_op (ev_var rfl) ev_c rv_isN) (by simp)) fun _ => ev_op (ev_var rfl) ev_c rv_isN) (by simp)) fun H3 e3 => k H3 ((e1.trans e2).trans e3)
    | bl x =>
      have ty : ∀ H0, Ex H H0 → ∀ H1, Ex H0 H1 → TyX K H1 (.bl x) (.type "bool") := fun _ _ _ _ => .base (.bl x)
      refine q_when (b := true) (et_or (a := true) (b := true) (et_B (ev_isi (ev_var rfl) (ty _ (Ex.refl H)) (by decide +kernel))) fun z => by cases z) (fun _ H1 e1 => ?_) (fun z => by cases z)
      exact s_ret (ev_is (ev_andV (a := true) (ev_isi (ev_var rfl) (ty _ e1) (by decide +kernel)) fun _ => ev_andV (a := true) (ev_isi (ev_var rfl) (ty _ e1) (by decide +kernel)) fun _ => ev_op (ev_var rfl) (ev_var rfl) (rv_eq rfl)) (by simp)) fun H2 e2 => k H2 (e1.trans e2)
    | int x =>
      have ty : ∀ H0, Ex H H0 → ∀ H1, Ex H0 H1 → TyX K H1 (.int x) (.type "int") := fun _ _ _ _ => .base (.int x)
      refine q_when (b := false) (et_or (a := false) (b := false) (et_B (ev_isi (ev_var rfl) (ty _ (Ex.refl H)) (by decide +kernel))) fun _ => et_B (ev_isi (ev_var rfl) (ty _ (Ex.refl H)) (by decide +kernel))) (fun z => by cases z) (fun _ H1 e1 => ?_)
      refine q_when (b := false) (et_is (et_or (et_test (ev_op (ev_var rfl) ev_c rv_isN)) fun _ => et_test (ev_op (ev_var rfl) ev_c rv_isN)) (by simp)) (fun z => by cases z) (fun _ H2 e2 => ?_)
      have e2 := e1.trans e2
      refine q_when (b := true) (et_or (a := true) (b := true) (et_B (ev_isi (ev_var rfl) (ty _ e2) (by decide +kernel))) fun z => by cases z) (fun _ H3 e3 => ?_) (fun z => by cases z)
      have e3 := e2.trans e3
      exact s_ret (ev_is (ev_andV (a := true) (ev_is (ev_op (ev_isi (r := true) (ev_var rfl) (ty _ e3) (by decide +kernel)) (ev_isi (r := true) (ev_var rfl) (ty _ e3) (by decide +kernel)) (rv_eq rfl)) (by simp)) fun _ => ev_andV (a := true) (ev_is (ev_op (ev_isi (r := false) (ev_var rfl) (ty _ e3) (by decide +kernel)) (ev_isi (r := false) (ev_var rfl) (ty _ e3) (by decide +kernel)) (rv_eq rfl)) (by simp)) fun _ => ev_op (ev_var rfl) (ev_var rfl) (rv_eq rfl)) (by simp)) fun H4 e4 => k H4 (e3.trans e4)
    | str x =>
      have ty : ∀ H0, Ex H H0 → ∀ H1, Ex H0 H1 → TyX K H1 (.str x) (.type "str") := fun _ _ _ _ => .base (.str x)
      refine q_when (b := false) (et_or (a := false) (b := false) (et_B (ev_isi (ev_var rfl) (ty _ (Ex.refl H)) (by decide +kernel))) fun _ => et_B (ev_isi (ev_var rfl) (ty _ (Ex.refl H)) (by decide +kernel))) (fun z => by cases z) (fun _ H1 e1 => ?_)
      refine q_when (b := false) (et_is (et_or (et_test (ev_op (ev_var rfl) ev_c rv_isN)) fun _ => et_test (ev_op (ev_var rfl) ev_c rv_isN)) (by simp)) (fun z => by cases z) (fun _ H2 e2 => ?_)
      have e2 := e1.trans e2
      refine q_when (b := true) (et_or (a := false) (b := true) (et_B (ev_isi (ev_var rfl) (ty _ e2) (by decide +kernel))) fun _ => et_B (ev_isi (ev_var rfl) (ty _ e2) (by decide +kernel))) (fun _ H3 e3 => ?_) (fun z => by cases z)
      have e3 := e2.trans e3
      exact s_ret (ev_is (ev_andV (a := true) (ev_is (ev_op (ev_isi (r := false) (ev_var rfl) (ty _ e3) (by decide +kernel)) (ev_isi (r := false) (ev_var rfl) (ty _ e3) (by decide +kernel)) (rv_eq rfl)) (by simp)) fun _ => ev_andV (a := true) (ev_is (ev_op (ev_isi (r := true) (ev_var rfl) (ty _ e3) (by decide +kernel)) (ev_isi (r := true) (ev_var rfl) (ty _ e3) (by decide +kernel)) (rv_eq rfl)) (by simp)) fun _ => ev_op (ev_var rfl) (ev_var rfl) (rv_eq rfl)) (by simp)) fun H4 e4 => k H4 (e3.trans e4)
    | _ => cases hx
theorem ok_sameS {f : Addr} {fd : FuncData} (D : DefAt K mg 20 "_law_same" ["told", "due"] f fd) (N : Nm mg) (M : NmS mg) {n : Nat} (G0 : FnOk P w K mg base CX0 (n + 1) f fd ["told", "due"] (spSame n)) : FnOk P w K mg base CX0 (n + 2) f fd ["told", "due"] (spSame (n + 1)) := by
  refine D.F.ok scSame (fun vs H Q E h => ?_) (fun cdv A outer s H vs Q E hr h => ?_)
  · obtain ⟨x, y, rfl, _⟩ := h
    rfl
  · obtain ⟨x, y, rfl, hS, k⟩ := h
    refine ⟨_, pss_cons (ps_if (PW.pt (pw_or (pt_val (pe_callB call_isi (by rfl) M.isi (by decide +kernel) (pa_cons (pv 0) (pa_cons (pe_bltn (v := .ty "bool") (by rfl) M.bool (by decide +kernel) rfl) pa_nil)))) (pw_or1 (pt_val (pe_callB call_isi (by rfl) M.isi (by decide +kernel) (pa_cons (pv 1) (pa_cons (pe_bltn (v := .ty "bool") (by rfl) M.bool (by decide +kernel) rfl) pa_nil))))))) (pss_one (ps_ret (pe_and (pe_callB call_isi (by rfl) M.isi (by decide +kernel) (pa_cons (pv 0) (pa_cons (pe_bltn (v := .ty "bool") (by rfl) M.bool (by decide +kernel) rfl) pa_nil))) (pe_and (pe_callB call_isi (by rfl) M.isi (by decide +kernel) (pa_cons (pv 1) (pa_cons (pe_bltn (v := .ty "bool") (by rfl) M.bool (by decide +kernel) rfl) pa_nil))) (pe_one (pe_cmpR op_eq (pv 0) (pv 1) (nomark _))))))) pss_nil) (pss_cons (ps_if (PW.pt (pw_or (pt_cmpR op_isNon (pv 0) pe_non (nomark _)) (pw_or1 (pt_cmpR op_isNon (pv 1) pe_non (nomark _))))) (pss_one (ps_ret (pe_and (pe_cmpR op_isNon (pv 0) pe_non (nomark _)) (pe_one (pe_cmpR op_isNon (pv 1) pe_non (nomark _)))))) pss_nil) (pss_cons (ps_if (PW.pt (pw_or (pt_val (pe_callB call_isi (by rfl) M.isi (by decide +kernel) (pa_cons (pv 1) (pa_cons (pe_bltn (v := .ty "int") (by rfl) M.int (by decide +kernel) rfl) pa_nil)))) (pw_or1 (pt_val (pe_callB call_isi (by rfl) M.isi (by decide +kernel) (pa_cons (pv 1) (pa_cons (pe_bltn (v := .ty "str") (by rfl) M.str (by decide +kernel) rfl) pa_nil))))))) (pss_one (ps_ret (pe_and (pe_cmpR op_eq (pe_callB call_isi (by rfl) M.isi (by decide +kernel) (pa_cons (pv 0) (pa_cons (pe_bltn (v := .ty "int") (by rfl) M.int (by decide +kernel) rfl) pa_nil))) (pe_callB call_isi (by rfl) M.isi (by decide +kernel) (pa_cons (pv 1) (pa_cons (pe_bltn (v := .ty "int") (by rfl) M.int (by decide +kernel) rfl) pa_nil))) (nomark _)) (pe_and (pe_cmpR op_eq (pe_callB call_isi (by rfl) M.isi (by decide +kernel) (pa_cons (pv 0) (pa_cons (pe_bltn (v := .ty "str") (by rfl) M.str (by decide +kernel) rfl) pa_nil))) (pe_callB call_isi (by rfl) M.isi (by decide +kernel) (pa_cons (pv 1) (pa_cons (pe_bltn (v := .ty "str") (by rfl) M.str (by decide +kernel) rfl) pa_nil))) (nomark _)) (pe_one (pe_cmpR op_eq (pv 0) (pv 1) (nomark _))))))) pss_nil) (pss_cons (ps_if (pt_val (pe_callB call_isi (by rfl) M.isi (by decide +kernel) (pa_cons (pv 1) (pa_cons (pe_bltn (v := .ty "dict") (by rfl) M.dict (by decide +kernel) rfl) pa_nil)))) pss_never pss_nil) (pss_cons (ps_if (PW.pt (pw_or (pt_cmpR op_ne (pe_callB call_isi (by rfl) M.isi (by decide +kernel) (pa_cons (pv 0) (pa_cons (pe_bltn (v := .ty "tuple") (by rfl) M.tuple (by decide +kernel) rfl) pa_nil))) (pe_callB call_isi (by rfl) M.isi (by decide +kernel) (pa_cons (pv 1) (pa_cons (pe_bltn (v := .ty "tuple") (by rfl) M.tuple (by decide +kernel) rfl) pa_nil))) (nomark _)) (pw_or1 (pt_cmpR op_ne (pe_callB call_isi (by rfl) M.isi (by decide +kernel) (pa_cons (pv 0) (pa_cons (pe_bltn (v := .ty "list") (by rfl) M.list (by decide +kernel) rfl) pa_nil))) (pe_callB call_isi (by rfl) M.isi (by decide +kernel) (pa_cons (pv 1) (pa_cons (pe_bltn (v := .ty "list") (by rfl) M.list (by decide +kernel) rfl) pa_nil))) (nomark _))))) pss_never pss_nil) (pss_cons (ps_if (PW.pt (pw_or (pt_not (pt_val (pe_callB call_isiT (by rfl) M.isi (by decide +kernel) (pa_cons (pv 0) (pa_cons (pe_tup (pa_cons (pe_bltn (v := .ty "tuple") (by rfl) M.tuple (by decide +kernel) rfl) (pa_cons (pe_bltn (v := .ty "list") (by rfl) M.list (by decide +kernel) rfl) pa_nil))) pa_nil))))) (pw_or1 (pt_cmpR op_ne (pe_callB call_len_seq (by rfl) N.len PySem.boot_len (pa_cons (pv 0) pa_nil)) (pe_callB call_len_seq (by rfl) N.len PySem.boot_len (pa_cons (pv 1) pa_nil)) (nomark _))))) pss_never pss_nil) (pss_one (ps_ret (pe_notE (pe_lc (own := [("k", 3)]) (g := gName 3) rfl scSame.nd (pi_range1 (by rfl) M.range (pa_cons (pe_callB call_len_seq (by rfl) N.len PySem.boot_len (pa_cons (pv 1) pa_nil)) pa_nil)) (blkOk_by (own := [("k", 3)]) (N := ["told", "due", "key", "k"]) (sc := defScope (topS 20)) (by decide +kernel)) (fun _ _ _ _ _ => pg_name (i := 3) scSame.nd rfl (.inl rfl)) (fun _ _ _ _ _ => pts_one (pt_not (pt_val (pe_call G0 hr (by rfl) D.g D.F.kp D.b .nil pass0 (pa_cons (pe_ix (r := rIx K) ix_seq (pv 0) (pv 3) (fun _ _ => rfl)) (pa_cons (pe_ix (r := rIx K) ix_seq (pv 1) (pv 3) (fun _ _ => rfl)) pa_nil)))))) (fun _ _ _ _ _ => pv 3)))))))))), ?_⟩
    rcases hS with ⟨rfl, hx⟩ | ⟨a, b, xs, ys, rfl, rfl, hl, hz, hab, hp⟩
    · cases x with
      | non =>
        have ty : ∀ H0, Ex H H0 → ∀ H1, Ex H0 H1 → TyX K H1 .non (.type "NoneType") := fun _ _ _ _ => .base .non
        refine q_when (b := false) (et_or (a := false) (b := false) (et_B (ev_isi (ev_var rfl) (ty _ (Ex.refl H)) (by decide +kernel))) fun _ => et_B (ev_isi (ev_var rfl) (ty _ (Ex.refl H)) (by decide +kernel))) (fun z => by cases z) (fun _ H1 e1 => ?_)
        refine q_when (b := true) (et_is (et_or (et_test (ev_op (ev_var rfl) ev_c rv_isN)) fun _ => et_test (ev_op (ev_var rfl) ev_c rv_isN)) (by simp)) (fun _ H2 e2 => ?_) (fun z => by cases z)
        exact s_ret (ev_is (ev_andV (a := true) (ev_is (ev_op (ev_var rfl) ev_c rv_isN) (by simp)) fun _ => ev_op (ev_var rfl) ev_c rv_isN) (by simp)) fun H3 e3 => k H3 ((e1.trans e2).trans e3)
      | bl x =>
        have ty : ∀ H0, Ex H H0 → ∀ H1, Ex H0 H1 → TyX K H1 (.bl x) (.type "bool") := fun _ _ _ _ => .base (.bl x)
        refine q_when (b := true) (et_or (a := true) (b := true) (et_B (ev_isi (ev_var rfl) (ty _ (Ex.refl H)) (by decide +kernel))) fun z => by cases z) (fun _ H1 e1 => ?_) (fun z => by cases z)
        exact s_ret (ev_is (ev_andV (a := true) (ev_isi (ev_var rfl) (ty _ e1) (by decide +kernel)) fun _ => ev_andV (a := true) (ev_isi (ev_var rfl) (ty _ e1) (by decide +kernel)) fun _ => ev_op (ev_var rfl) (ev_var rfl) (rv_eq rfl)) (by simp)) fun H2 e2 => k H2 (e1.trans e2)
      | int x =>
        have ty : ∀ H0, Ex H H0 → ∀ H1, Ex H0 H1 → TyX K H1 (.int x) (.type "int") := fun _ _ _ _ => .base (.int x)
        refine q_when (b := false) (et_or (a := false) (b := false) (et_B (ev_isi (ev_var rfl) (ty _ (Ex.refl H)) (by decide +kernel))) fun _ => et_B (ev_isi (ev_var rfl) (ty _ (Ex.refl H)) (by decide +kernel))) (fun z => by cases z) (fun _ H1 e1 => ?_)
        refine q_when (b := false) (et_is (et_or (et_test (ev_op (ev_var rfl) ev_c rv_isN)) fun _ => et_test (ev_op (ev_var rfl) ev_c rv_isN)) (by simp)) (fun z => by cases z) (fun _ H2 e2 => ?_)
        have e2 := e1.trans e2
        refine q_when (b := true) (et_or (a := true) (b := true) (et_B (ev_isi (ev_var rfl) (ty _ e2) (by decide +kernel))) fun z => by cases z) (fun _ H3 e3 => ?_) (fun z => by cases z)
        have e3 := e2.trans e3
        exact s_ret (ev_is (ev_andV (a := true) (ev_is (ev_op (ev_isi (r := true) (ev_var rfl) (ty _ e3) (by decide +kernel)) (ev_isi (r := true) (ev_var rfl) (ty _ e3) (by decide +kernel)) (rv_eq rfl)) (by simp)) fun _ => ev_andV (a := true) (ev_is (ev_op (ev_isi (r := false) (ev_var rfl) (ty _ e3) (by decide +kernel)) (ev_isi (r := false) (ev_var rfl) (ty _ e3) (by decide +kernel)) (rv_eq rfl)) (by simp)) fun _ => ev_op (ev_var rfl) (ev_var rfl) (rv_eq rfl)) (by simp)) fun H4 e4 => k H4 (e3.trans e4)
      | str x =>
        have ty : ∀ H0, Ex H H0 → ∀ H1, Ex H0 H1 → TyX K H1 (.str x) (.type "str") := fun _ _ _ _ => .base (.str x)
        refine q_when (b := false) (et_or (a := false) (b := false) (et_B (ev_isi (ev_var rfl) (ty _ (Ex.refl H)) (by decide +kernel))) fun _ => et_B (ev_isi (ev_var rfl) (ty _ (Ex.refl H)) (by decide +kernel))) (fun z => by cases z) (fun _ H1 e1 => ?_)
        refine q_when (b := false) (et_is (et_or (et_test (ev_op (ev_var rfl) ev_c rv_isN)) fun _ => et_test (ev_op (ev_var rfl) ev_c rv_isN)) (by simp)) (fun z => by cases z) (fun _ H2 e2 => ?_)
        have e2 := e1.trans e2
        refine q_when (b := true) (et_or (a := false) (b := true) (et_B (ev_isi (ev_var rfl) (ty _ e2) (by decide +kernel))) fun _ => et_B (ev_isi (ev_var rfl) (ty _ e2) (by decide +kernel))) (fun _ H3 e3 => ?_) (fun z => by cases z)
        have e3 := e2.trans e3
        exact s_ret (ev_is (ev_andV (a := true) (ev_is (ev_op (ev_isi (r := false) (ev_var rfl) (ty _ e3) (by decide +kernel)) (ev_isi (r := false) (ev_var rfl) (ty _ e3) (by decide +kernel)) (rv_eq rfl)) (by simp)) fun _ => ev_andV (a := true) (ev_is (ev_op (ev_isi (r := true) (ev_var rfl) (ty _ e3) (by decide +kernel)) (ev_isi (r := true) (ev_var rfl) (ty _ e3) (by decide +kernel)) (rv_eq rfl)) (by simp)) fun _ => ev_op (ev_var rfl) (ev_var rfl) (rv_eq rfl)) (by simp)) fun H4 e4 => k H4 (e3.trans e4)
      | _ => cases hx
    · rcases hab with ⟨ha, hb2⟩ | ⟨ha, hb2⟩
      · have tya : ∀ H0, Ex H H0 → ∀ H1, Ex H0 H1 → TyX K H1 (.ref a) (.type "list") := fun H0 e H1 e1 => .base (.lst (e1 _ _ (e _ _ ha)))
        have tyb : ∀ H0, Ex H H0 → ∀ H1, Ex H0 H1 → TyX K H1 (.ref b) (.type "list") := fun H0 e H1 e1 => .base (.lst (e1 _ _ (e _ _ hb2)))
        have sa : ∀ H0, Ex H H0 → Sq K H0 a xs := fun H0 e => .inl (sq_of (e _ _ ha))
        have sb : ∀ H0, Ex H H0 → Sq K H0 b ys := fun H0 e => .inl (sq_of (e _ _ hb2))
        refine q_when (b := false) (et_or (a := false) (b := false) (et_B (ev_isi (ev_var rfl) (tya _ (Ex.refl H)) (by decide +kernel))) fun _ => et_B (ev_isi (ev_var rfl) (tyb _ (Ex.refl H)) (by decide +kernel))) (fun z => by cases z) (fun _ H1 e1 => ?_)
        refine q_when (b := false) (et_is (et_or (et_test (ev_op (ev_var rfl) ev_c rv_isN)) fun _ => et_test (ev_op (ev_var rfl) ev_c rv_isN)) (by simp)) (fun z => by cases z) (fun _ H2 e2 => ?_)
        have e2 := e1.trans e2
        refine q_when (b := false) (et_or (a := false) (b := false) (et_B (ev_isi (ev_var rfl) (tyb _ e2) (by decide +kernel))) fun _ => et_B (ev_isi (ev_var rfl) (tyb _ e2) (by decide +kernel))) (fun z => by cases z) (fun _ H3 e3 => ?_)
        have e3 := e2.trans e3
        refine q_when (b := false) (et_B (ev_isi (ev_var rfl) (tyb _ e3) (by decide +kernel))) (fun z => by cases z) (fun _ H4 e4 => ?_)
        have e4 := e3.trans e4
        refine q_when (b := false) (et_is (et_or (et_test (ev_op (ev_isi (r := false) (ev_var rfl) (tya _ e4) (by decide +kernel)) (ev_isi (r := false) (ev_var rfl) (tyb _ e4) (by decide +kernel)) (rv_ne rfl))) fun _ => et_test (ev_op (ev_isi (r := true) (ev_var rfl) (tya _ e4) (by decide +kernel)) (ev_isi (r := true) (ev_var rfl) (tyb _ e4) (by decide +kernel)) (rv_ne rfl))) (by simp)) (fun z => by cases z) (fun _ H5 e5 => ?_)
        have e5 := e4.trans e5
        refine q_when (b := false) (et_is (et_or (et_not (et_B (ev_isiT2 (ev_var rfl) (tya _ e5) (.inr ⟨by decide +kernel, by decide +kernel⟩)))) fun _ => et_test (ev_op (ev_lenSq (ev_var rfl) (sa _ e5)) (ev_lenSq (ev_var rfl) (sb _ e5)) (rv_ne rfl))) (by simp [hl])) (fun z => by cases z) (fun _ H6 e6 => ?_)
        have e6 := e5.trans e6
        refine s_ret (ev_is (ev_notL (el_lcR1 (n := (ys.length : Int)) (fun _ => false) (fun i => .int (i : Int)) (ea_cons (ev_lenSq (ev_var rfl) (sb _ e6)) ea_nil) (by omega) (fun x => rfl) (fun i H7 e7 hi => ?_) (fun i H7 _ _ z => by cases z))) (by rw [given_none fun _ _ => rfl]; rfl)) fun H7 e7 => k H7 (e6.trans e7)
        have e7 := e6.trans e7
        have hi1 : i < xs.length := by omega
        have hi2 : i < ys.length := by omega
        have hx : xs[i]? = some xs[i] := List.getElem?_eq_getElem hi1
        have hy : ys[i]? = some ys[i] := List.getElem?_eq_getElem hi2
        exact et_not (a := true) (et_B (ev_call (z := .bl true) (ea_cons (ev_op (ev_var rfl) (ev_var rfl) (rv_ixSq (sa _ e7) (atI_nat hx))) (ea_cons (ev_op (ev_var rfl) (ev_var rfl) (rv_ixSq (sb _ e7) (atI_nat hy))) ea_nil)) (fun H8 e8 Q q E => ⟨xs[i], ys[i], rfl, (hp i _ _ hx hy).mono (e7.trans e8), fun H9 e9 => q H9 e9⟩)))
      · have tya : ∀ H0, Ex H H0 → ∀ H1, Ex H0 H1 → TyX K H1 (.ref a) (.type "tuple") := fun H0 e H1 e1 => .base (.tup (e1 _ _ (e _ _ ha)))
        have tyb : ∀ H0, Ex H H0 → ∀ H1, Ex H0 H1 → TyX K H1 (.ref b) (.type "tuple") := fun H0 e H1 e1 => .base (.tup (e1 _ _ (e _ _ hb2)))
        have sa : ∀ H0, Ex H H0 → Sq K H0 a xs := fun H0 e => .inr (st_of (e _ _ ha))
        have sb : ∀ H0, Ex H H0 → Sq K H0 b ys := fun H0 e => .inr (st_of (e _ _ hb2))
        refine q_when (b := false) (et_or (a := false) (b := false) (et_B (ev_isi (ev_var rfl) (tya _ (Ex.refl H)) (by decide +kernel))) fun _ => et_B (ev_isi (ev_var rfl) (tyb _ (Ex.refl H)) (by decide +kernel))) (fun z => by cases z) (fun _ H1 e1 => ?_)
        refine q_when (b := false) (et_is (et_or (et_test (ev_op (ev_var rfl) ev_c rv_isN)) fun _ => et_test (ev_op (ev_var rfl) ev_c rv_isN)) (by simp)) (fun z => by cases z) (fun _ H2 e2 => ?_)
        have e2 := e1.trans e2
        refine q_when (b := false) (et_or (a := false) (b := false) (et_B (ev_isi (ev_var rfl) (tyb _ e2) (by decide +kernel))) fun _ => et_B (ev_isi (ev_var rfl) (tyb _ e2) (by decide +kernel))) (fun z => by cases z) (fun _ H3 e3 => ?_)
        have e3 := e2.trans e3
        refine q_when (b := false) (et_B (ev_isi (ev_var rfl) (tyb _ e3) (by decide +kernel))) (fun z => by cases z) (fun _ H4 e4 => ?_)
        have e4 := e3.trans e4
        refine q_when (b := false) (et_is (et_or (et_test (ev_op (ev_isi (r := true) (ev_var rfl) (tya _ e4) (by decide +kernel)) (ev_isi (r := true) (ev_var rfl) (tyb _ e4) (by decide +kernel)) (rv_ne rfl))) fun _ => et_test (ev_op (ev_isi (r := false) (ev_var rfl) (tya _ e4) (by decide +kernel)) (ev_isi (r := false) (ev_var rfl) (tyb _ e4) (by decide +kernel)) (rv_ne rfl))) (by simp)) (fun z => by cases z) (fun _ H5 e5 => ?_)
        have e5 := e4.trans e5
        refine q_when (b := false) (et_is (et_or (et_not (et_B (ev_isiT2 (ev_var rfl) (tya _ e5) (.inl (by decide +kernel))))) fun _ => et_test (ev_op (ev_lenSq (ev_var rfl) (sa _ e5)) (ev_lenSq (ev_var rfl) (sb _ e5)) (rv_ne rfl))) (by simp [hl])) (fun z => by cases z) (fun _ H6 e6 => ?_)
        have e6 := e5.trans e6
        refine s_ret (ev_is (ev_notL (el_lcR1 (n := (ys.length : Int)) (fun _ => false) (fun i => .int (i : Int)) (ea_cons (ev_lenSq (ev_var rfl) (sb _ e6)) ea_nil) (by omega) (fun x => rfl) (fun i H7 e7 hi => ?_) (fun i H7 _ _ z => by cases z))) (by rw [given_none fun _ _ => rfl]; rfl)) fun H7 e7 => k H7 (e6.trans e7)
        have e7 := e6.trans e7
        have hi1 : i < xs.length := by omega
        have hi2 : i < ys.length := by omega
        have hx : xs[i]? = some xs[i] := List.getElem?_eq_getElem hi1
        have hy : ys[i]? = some ys[i] := List.getElem?_eq_getElem hi2
        exact et_not (a := true) (et_B (ev_call (z := .bl true) (ea_cons (ev_op (ev_var rfl) (ev_var rfl) (rv_ixSq (sa _ e7) (atI_nat hx))) (ea_cons (ev_op (ev_var rfl) (ev_var rfl) (rv_ixSq (sb _ e7) (atI_nat hy))) ea_nil)) (fun H8 e8 Q q E => ⟨xs[i], ys[i], rfl, (hp i _ _ hx hy).mono (e7.trans e8), fun H9 e9 => q H9 e9⟩)))
theorem okT_same0 {f : Addr} {fd : FuncData} (D : DefAt K mg 20 "_law_same" ["told", "due"] f fd) (N : Nm mg) (M : NmS mg) : FnT P w K mg base 1 f fd ["told", "due"] (spSame 0) := by
  refine okT D.F scSame (fun vs H Q E h => ?_) (fun cdv A outer s H vs Q E hr hot h => ?_)
  · obtain ⟨x, y, rfl, _⟩ := h
    rfl
  · obtain ⟨x, y, rfl, hS, k⟩ := h
    refine ⟨_, pss_cons (ps_if (PW.pt (pw_or (pt_val (pe_callB call_isi (by rfl) M.isi (by decide +kernel) (pa_cons (pv 0) (pa_cons (pe_bltn (v := .ty "bool") (by rfl) M.bool (by decide +kernel) rfl) pa_nil)))) (pw_or1 (pt_val (pe_callB call_isi (by rfl) M.isi (by decide +kernel) (pa_cons (pv 1) (pa_cons (pe_bltn (v := .ty "bool") (by rfl) M.bool (by decide +kernel) rfl) pa_nil))))))) (pss_one (ps_ret (pe_and (pe_callB call_isi (by rfl) M.isi (by decide +kernel) (pa_cons (pv 0) (pa_cons (pe_bltn (v := .ty "bool") (by rfl) M.bool (by decide +kernel) rfl) pa_nil))) (pe_and (pe_callB call_isi (by rfl) M.isi (by decide +kernel) (pa_cons (pv 1) (pa_cons (pe_bltn (v := .ty "bool") (by rfl) M.bool (by decide +kernel) rfl) pa_nil))) (pe_one (pe_cmpR op_eq (pv 0) (pv 1) (nomark _))))))) pss_nil) (pss_cons (ps_if (PW.pt (pw_or (pt_cmpR op_isNon (pv 0) pe_non (nomark _)) (pw_or1 (pt_cmpR op_isNon (pv 1) pe_non (nomark _))))) (pss_one (ps_ret (pe_and (pe_cmpR op_isNon (pv 0) pe_non (nomark _)) (pe_one (pe_cmpR op_isNon (pv 1) pe_non (nomark _)))))) pss_nil) (pss_cons (ps_if (PW.pt (pw_or (pt_val (pe_callB call_isi (by rfl) M.isi (by decide +kernel) (pa_cons (pv 1) (pa_cons (pe_bltn (v := .ty "int") (by rfl) M.int (by decide +kernel) rfl) pa_nil)))) (pw_or1 (pt_val (pe_callB call_isi (by rfl) M.isi (by decide +kernel) (pa_cons (pv 1) (pa_cons (pe_bltn (v := .ty "str") (by rfl) M.str (by decide +kernel) rfl) pa_nil))))))) (pss_one (ps_ret (pe_and (pe_cmpR op_eq (pe_callB call_isi (by rfl) M.isi (by decide +kernel) (pa_cons (pv 0) (pa_cons (pe_bltn (v := .ty "int") (by rfl) M.int (by decide +kernel) rfl) pa_nil))) (pe_callB call_isi (by rfl) M.isi (by decide +kernel) (pa_cons (pv 1) (pa_cons (pe_bltn (v := .ty "int") (by rfl) M.int (by decide +kernel) rfl) pa_nil))) (nomark _)) (pe_and (pe_cmpR op_eq (pe_callB call_isi (by rfl) M.isi (by decide +kernel) (pa_cons (pv 0) (pa_cons (pe_bltn (v := .ty "str") (by rfl) M.str (by decide +kernel) rfl) pa_nil))) (pe_callB call_isi (by rfl) M.isi (by decide +kernel) (pa_cons (pv 1) (pa_cons (pe_bltn (v := .ty "str") (by rfl) M.str (by decide +kernel) rfl) pa_nil))) (nomark _)) (pe_one (pe_cmpR op_eq (pv 0) (pv 1) (nomark _))))))) pss_nil) pss_never)), ?_⟩
    obtain ⟨rfl, hx⟩ := hS
    cases x with
    | non =>
      have ty : ∀ H0, Ex H H0 → ∀ H1, Ex H0 H1 → TyX K H1 .non (.type "NoneType") := fun _ _ _ _ => .base .non
      refine q_when (b := false) (et_or (a := false) (b := false) (et_B (ev_isi (ev_var rfl) (ty _ (Ex.refl H)) (by decide +kernel))) fun _ => et_B (ev_isi (ev_var rfl) (ty _ (Ex.refl H)) (by decide +kernel))) (fun z => by cases z) (fun _ H1 e1 => ?_)
      refine q_when (b := true) (et_is (et_or (et_test (ev_op (ev_var rfl) ev_c rv_isN)) fun _ => et_test (ev_op (ev_var rfl) ev_c rv_isN)) (by simp)) (fun _ H2 e2 => ?_) (fun z => by cases z)
      exact s_ret (ev_is (ev_andV (a := true) (ev_is (ev_op (ev_var rfl) ev_c rv_isN) (by simp)) fun _ => ev_op (ev_var rfl) ev_c rv_isN) (by simp)) fun H3 e3 => k H3 ((e1.trans e2).trans e3)
    | bl x =>
      have ty : ∀ H0, Ex H H0 → ∀ H1, Ex H0 H1 → TyX K H1 (.bl x) (.type "bool") := fun _ _ _ _ => .base (.bl x)
      refine q_when (b := true) (et_or (a := true) (b := true) (et_B (ev_isi (ev_var rfl) (ty _ (Ex.refl H)) (by decide +kernel))) fun z => by cases z) (fun _ H1 e1 => ?_) (fun z => by cases z)
      exact s_ret (ev_is (ev_andV (a := true) (ev_isi (ev_var rfl) (ty _ e1) (by decide +kernel)) fun _ => ev_andV (a := true) (ev_isi (ev_var rfl) (ty _ e1) (by decide +kernel)) fun _ => ev_op (ev_var rfl) (ev_var rfl) (rv_eq rfl)) (by simp)) fun H2 e2 => k H2 (e1.trans e2)
    | int x =>
      have ty : ∀ H0, Ex H H0 → ∀ H1, Ex H0 H1 → TyX K H1 (.int x) (.type "int") := fun _ _ _ _ => .base (.int x)
      refine q_when (b := false) (et_or (a := false) (b := false) (et_B (ev_isi (ev_var rfl) (ty _ (Ex.refl H)) (by decide +kernel))) fun _ => et_B (ev_isi (ev_var rfl) (ty _ (Ex.refl H)) (by decide +kernel))) (fun z => by cases z) (fun _ H1 e1 => ?_)
      refine q_when (b := false) (et_is (et_or (et_test (ev_op (ev_var rfl) ev_c rv_isN)) fun _ => et_test (ev_op (ev_var rfl) ev_c rv_isN)) (by simp)) (fun z => by cases z) (fun _ H2 e2 => ?_)
      have e2 := e1.trans e2
      refine q_when (b := true) (et_or (a := true) (b := true) (et_B (ev_isi (ev_var rfl) (ty _ e2) (by decide +kernel))) fun z => by cases z) (fun _ H3 e3 => ?_) (fun z => by cases z)
      have e3 := e2.trans e3
      exact s_ret (ev_is (ev_andV (a := true) (ev_is (ev_op (ev_isi (r := true) (ev_var rfl) (ty _ e3) (by decide +kernel)) (ev_isi (r := true) (ev_var rfl) (ty _ e3) (by decide +kernel)) (rv_eq rfl)) (by simp)) fun _ => ev_andV (a := true) (ev_is (ev_op (ev_isi (r := false) (ev_var rfl) (ty _ e3) (by decide +kernel)) (ev_isi (r := false) (ev_var rfl) (ty _ e3) (by decide +kernel)) (rv_eq rfl)) (by simp)) fun _ => ev_op (ev_var rfl) (ev_var rfl) (rv_eq rfl)) (by simp)) fun H4 e4 => k H4 (e3.trans e4)
    | str x =>
      have ty : ∀ H0, Ex H H0 → ∀ H1, Ex H0 H1 → TyX K H1 (.str x) (.type "str") := fun _ _ _ _ => .base (.str x)
      refine q_when (b := false) (et_or (a := false) (b := false) (et_B (ev_isi (ev_var rfl) (ty _ (Ex.refl H)) (by decide +kernel))) fun _ => et_B (ev_isi (ev_var rfl) (ty _ (Ex.refl H)) (by decide +kernel))) (fun z => by cases z) (fun _ H1 e1 => ?_)
      refine q_when (b := false) (et_is (et_or (et_test (ev_op (ev_var rfl) ev_c rv_isN)) fun _ => et_test (ev_op (ev_var rfl) ev_c rv_isN)) (by simp)) (fun z => by cases z) (fun _ H2 e2 => ?_)
      have e2 := e1.trans e2
      refine q_when (b := true) (et_or (a := false) (b := true) (et_B (ev_isi (ev_var rfl) (ty _ e2) (by decide +kernel))) fun _ => et_B (ev_isi (ev_var rfl) (ty _ e2) (by decide +kernel))) (fun _ H3 e3 => ?_) (fun z => by cases z)
      have e3 := e2.trans e3
      exact s_ret (ev_is (ev_andV (a := true) (ev_is (ev_op (ev_isi (r := false) (ev_var rfl) (ty _ e3) (by decide +kernel)) (ev_isi (r := false) (ev_var rfl) (ty _ e3) (by decide +kernel)) (rv_eq rfl)) (by simp)) fun _ => ev_andV (a := true) (ev_is (ev_op (ev_isi (r := true) (ev_var rfl) (ty _ e3) (by decide +kernel)) (ev_isi (r := true) (ev_var rfl) (ty _ e3) (by decide +kernel)) (rv_eq rfl)) (by simp)) fun _ => ev_op (ev_var rfl) (ev_var rfl) (rv_eq rfl)) (by simp)) fun H4 e4 => k H4 (e3.trans e4)
    | _ => cases hx
theorem okT_sameS {f : Addr} {fd : FuncData} (D : DefAt K mg 20 "_law_same" ["told", "due"] f fd) (N : Nm mg) (M : NmS mg) {n : Nat} (G0 : FnT P w K mg base (n + 1) f fd ["told", "due"] (spSame n)) : FnT P w K mg base (n + 2) f fd ["told", "due"] (spSame (n + 1)) := by
  refine okT D.F scSame (fun vs H Q E h => ?_) (fun cdv A outer s H vs Q E hr hot h => ?_)
  · obtain ⟨x, y, rfl, _⟩ := h
    rfl
  · obtain ⟨x, y, rfl, hS, k⟩ := h
    refine ⟨_, pss_cons (ps_if (PW.pt (pw_or (pt_val (pe_callB call_isi (by rfl) M.isi (by decide +kernel) (pa_cons (pv 0) (pa_cons (pe_bltn (v := .ty "bool") (by rfl) M.bool (by decide +kernel) rfl) pa_nil)))) (pw_or1 (pt_val (pe_callB call_isi (by rfl) M.isi (by decide +kernel) (pa_cons (pv 1) (pa_cons (pe_bltn (v := .ty "bool") (by rfl) M.bool (by decide +kernel) rfl) pa_nil))))))) (pss_one (ps_ret (pe_and (pe_callB call_isi (by rfl) M.isi (by decide +kernel) (pa_cons (pv 0) (pa_cons (pe_bltn (v := .ty "bool") (by rfl) M.bool (by decide +kernel) rfl) pa_nil))) (pe_and (pe_callB call_isi (by rfl) M.isi (by decide +kernel) (pa_cons (pv 1) (pa_cons (pe_bltn (v := .ty "bool") (by rfl) M.bool (by decide +kernel) rfl) pa_nil))) (pe_one (pe_cmpR op_eq (pv 0) (pv 1) (nomark _))))))) pss_nil) (pss_cons (ps_if (PW.pt (pw_or (pt_cmpR op_isNon (pv 0) pe_non (nomark _)) (pw_or1 (pt_cmpR op_isNon (pv 1) pe_non (nomark _))))) (pss_one (ps_ret (pe_and (pe_cmpR op_isNon (pv 0) pe_non (nomark _)) (pe_one (pe_cmpR op_isNon (pv 1) pe_non (nomark _)))))) pss_nil) (pss_cons (ps_if (PW.pt (pw_or (pt_val (pe_callB call_isi (by rfl) M.isi (by decide +kernel) (pa_cons (pv 1) (pa_cons (pe_bltn (v := .ty "int") (by rfl) M.int (by decide +kernel) rfl) pa_nil)))) (pw_or1 (pt_val (pe_callB call_isi (by rfl) M.isi (by decide +kernel) (pa_cons (pv 1) (pa_cons (pe_bltn (v := .ty "str") (by rfl) M.str (by decide +kernel) rfl) pa_nil))))))) (pss_one (ps_ret (pe_and (pe_cmpR op_eq (pe_callB call_isi (by rfl) M.isi (by decide +kernel) (pa_cons (pv 0) (pa_cons (pe_bltn (v := .ty "int") (by rfl) M.int (by decide +kernel) rfl) pa_nil))) (pe_callB call_isi (by rfl) M.isi (by decide +kernel) (pa_cons (pv 1) (pa_cons (pe_bltn (v := .ty "int") (by rfl) M.int (by decide +kernel) rfl) pa_nil))) (nomark _)) (pe_and (pe_cmpR op_eq (pe_callB call_isi (by rfl) M.isi (by decide +kernel) (pa_cons (pv 0) (pa_cons (pe_bltn (v := .ty "str") (by rfl) M.str (by decide +kernel) rfl) pa_nil))) (pe_callB call_isi (by rfl) M.isi (by decide +kernel) (pa_cons (pv 1) (pa_cons (pe_bltn (v := .ty "str") (by rfl) M.str (by decide +kernel) rfl) pa_nil))) (nomark _)) (pe_one (pe_cmpR op_eq (pv 0) (pv 1) (nomark _))))))) pss_nil) (pss_cons (ps_if (pt_val (pe_callB call_isi (by rfl) M.isi (by decide +kernel) (pa_cons (pv 1) (pa_cons (pe_bltn (v := .ty "dict") (by rfl) M.dict (by decide +kernel) rfl) pa_nil)))) pss_never pss_nil) (pss_cons (ps_if (PW.pt (pw_or (pt_cmpR op_ne (pe_callB call_isi (by rfl) M.isi (by decide +kernel) (pa_cons (pv 0) (pa_cons (pe_bltn (v := .ty "tuple") (by rfl) M.tuple (by decide +kernel) rfl) pa_nil))) (pe_callB call_isi (by rfl) M.isi (by decide +kernel) (pa_cons (pv 1) (pa_cons (pe_bltn (v := .ty "tuple") (by rfl) M.tuple (by decide +kernel) rfl) pa_nil))) (nomark _)) (pw_or1 (pt_cmpR op_ne (pe_callB call_isi (by rfl) M.isi (by decide +kernel) (pa_cons (pv 0) (pa_cons (pe_bltn (v := .ty "list") (by rfl) M.list (by decide +kernel) rfl) pa_nil))) (pe_callB call_isi (by rfl) M.isi (by decide +kernel) (pa_cons (pv 1) (pa_cons (pe_bltn (v := .ty "list") (by rfl) M.list (by decide +kernel) rfl) pa_nil))) (nomark _))))) pss_never pss_nil) (pss_cons (ps_if (PW.pt (pw_or (pt_not (pt_val (pe_callB call_isiT (by rfl) M.isi (by decide +kernel) (pa_cons (pv 0) (pa_cons (pe_tup (pa_cons (pe_bltn (v := .ty "tuple") (by rfl) M.tuple (by decide +kernel) rfl) (pa_cons (pe_bltn (v := .ty "list") (by rfl) M.list (by decide +kernel) rfl) pa_nil))) pa_nil))))) (pw_or1 (pt_cmpR op_ne (pe_callB call_len_seq (by rfl) N.len PySem.boot_len (pa_cons (pv 0) pa_nil)) (pe_callB call_len_seq (by rfl) N.len PySem.boot_len (pa_cons (pv 1) pa_nil)) (nomark _))))) pss_never pss_nil) (pss_one (ps_ret (pe_notE (pe_lcT (own := [("k", 3)]) (g := gName 3) hot scSame.nd (by rfl) M.range (pa_cons (pe_callB call_len_seq (by rfl) N.len PySem.boot_len (pa_cons (pv 1) pa_nil)) pa_nil) (blkOk_by (own := [("k", 3)]) (N := ["told", "due", "key", "k"]) (sc := defScope (topS 20)) (by decide +kernel)) (fun _ _ _ _ _ hb => ⟨pg_name (i := 3) scSame.nd rfl (.inl rfl), pts_one (pt_not (pt_val (pe_callT G0 hr hb (by rfl) D.g D.F.kp D.b (pa_cons (pe_ix (r := rIx K) ix_seq (pv 0) (pv 3) (fun _ _ => rfl)) (pa_cons (pe_ix (r := rIx K) ix_seq (pv 1) (pv 3) (fun _ _ => rfl)) pa_nil))))), pv 3⟩)))))))))), ?_⟩
    rcases hS with ⟨rfl, hx⟩ | ⟨a, b, xs, ys, rfl, rfl, hl, hz, hab, hp⟩
    · cases x with
      | non =>
        have ty : ∀ H0, Ex H H0 → ∀ H1, Ex H0 H1 → TyX K H1 .non (.type "NoneType") := fun _ _ _ _ => .base .non
        refine q_when (b := false) (et_or (a := false) (b := false) (et_B (ev_isi (ev_var rfl) (ty _ (Ex.refl H)) (by decide +kernel))) fun _ => et_B (ev_isi (ev_var rfl) (ty _ (Ex.refl H)) (by decide +kernel))) (fun z => by cases z) (fun _ H1 e1 => ?_)
        refine q_when (b := true) (et_is (et_or (et_test (ev_op (ev_var rfl) ev_c rv_isN)) fun _ => et_test (ev_op (ev_var rfl) ev_c rv_isN)) (by simp)) (fun _ H2 e2 => ?_) (fun z => by cases z)
        exact s_ret (ev_is (ev_andV (a := true) (ev_is (ev_op (ev_var rfl) ev_c rv_isN) (by simp)) fun _ => ev_op (ev_var rfl) ev_c rv_isN) (by simp)) fun H3 e3 => k H3 ((e1.trans e2).trans e3)
      | bl x =>
        have ty : ∀ H0, Ex H H0 → ∀ H1, Ex H0 H1 → TyX K H1 (.bl x) (.type "bool") := fun _ _ _ _ => .base (.bl x)
        refine q_when (b := true) (et_or (a := true) (b := true) (et_B (ev_isi (ev_var rfl) (ty _ (Ex.refl H)) (by decide +kernel))) fun z => by cases z) (fun _ H1 e1 => ?_) (fun z => by cases z)
        exact s_ret (ev_is (ev_andV (a := true) (ev_isi (ev_var rfl) (ty _ e1) (by decide +kernel)) fun _ => ev_andV (a := true) (ev_isi (ev_var rfl) (ty _ e1) (by decide +kernel)) fun _ => ev_op (ev_var rfl) (ev_var rfl) (rv_eq rfl)) (by simp)) fun H2 e2 => k H2 (e1.trans e2)
      | int x =>
        have ty : ∀ H0, Ex H H0 → ∀ H1, Ex H0 H1 → TyX K H1 (.int x) (.type "int") := fun _ _ _ _ => .base (.int x)
        refine q_when (b := false) (et_or (a := false) (b := false) (et_B (ev_isi (ev_var rfl) (ty _ (Ex.refl H)) (by decide +kernel))) fun _ => et_B (ev_isi (ev_var rfl) (ty _ (Ex.refl H)) (by decide +kernel))) (fun z => by cases z) (fun _ H1 e1 => ?_)
        refine q_when (b := false) (et_is (et_or (et_test (ev_op (ev_var rfl) ev_c rv_isN)) fun _ => et_test (ev_op (ev_var rfl) ev_c rv_isN)) (by simp)) (fun z => by cases z) (fun _ H2 e2 => ?_)
        have e2 := e1.trans e2
        refine q_when (b := true) (et_or (a := true) (b := true) (et_B (ev_isi (ev_var rfl) (ty _ e2) (by decide +kernel))) fun z => by cases z) (fun _ H3 e3 => ?_) (fun z => by cases z)
        have e3 := e2.trans e3
        exact s_ret (ev_is (ev_andV (a := true) (ev_is (ev_op (ev_isi (r := true) (ev_var rfl) (ty _ e3) (by decide +kernel)) (ev_isi (r := true) (ev_var rfl) (ty _ e3) (by decide +kernel)) (rv_eq rfl)) (by simp)) fun _ => ev_andV (a := true) (ev_is (ev_op (ev_isi (r := false) (ev_var rfl) (ty _ e3) (by decide +kernel)) (ev_isi (r := false) (ev_var rfl) (ty _ e3) (by decide +kernel)) (rv_eq rfl)) (by simp)) fun _ => ev_op (ev_var rfl) (ev_var rfl) (rv_eq rfl)) (by simp)) fun H4 e4 => k H4 (e3.trans e4)
      | str x =>
        have ty : ∀ H0, Ex H H0 → ∀ H1, Ex H0 H1 → TyX K H1 (.str x) (.type "str") := fun _ _ _ _ => .base (.str x)
        refine q_when (b := false) (et_or (a := false) (b := false) (et_B (ev_isi (ev_var rfl) (ty _ (Ex.refl H)) (by decide +kernel))) fun _ => et_B (ev_isi (ev_var rfl) (ty _ (Ex.refl H)) (by decide +kernel))) (fun z => by cases z) (fun _ H1 e1 => ?_)
        refine q_when (b := false) (et_is (et_or (et_test (ev_op (ev_var rfl) ev_c rv_isN)) fun _ => et_test (ev_op (ev_var rfl) ev_c rv_isN)) (by simp)) (fun z => by cases z) (fun _ H2 e2 => ?_)
        have e2 := e1.trans e2
        refine q_when (b := true) (et_or (a := false) (b := true) (et_B (ev_isi (ev_var rfl) (ty _ e2) (by decide +kernel))) fun _ => et_B (ev_isi (ev_var rfl) (ty _ e2) (by decide +kernel))) (fun _ H3 e3 => ?_) (fun z => by cases z)
        have e3 := e2.trans e3
        exact s_ret (ev_is (ev_andV (a := true) (ev_is (ev_op (ev_isi (r := false) (ev_var rfl) (ty _ e3) (by decide +kernel)) (ev_isi (r := false) (ev_var rfl) (ty _ e3) (by decide +kernel)) (rv_eq rfl)) (by simp)) fun _ => ev_andV (a := true) (ev_is (ev_op (ev_isi (r := true) (ev_var rfl) (ty _ e3) (by decide +kernel)) (ev_isi (r := true) (ev_var rfl) (ty _ e3) (by decide +kernel)) (rv_eq rfl)) (by simp)) fun _ => ev_op (ev_var rfl) (ev_var rfl) (rv_eq rfl)) (by simp)) fun H4 e4 => k H4 (e3.trans e4)
      | _ => cases hx
    · rcases hab with ⟨ha, hb2⟩ | ⟨ha, hb2⟩
      · have tya : ∀ H0, Ex H H0 → ∀ H1, Ex H0 H1 → TyX K H1 (.ref a) (.type "list") := fun H0 e H1 e1 => .base (.lst (e1 _ _ (e _ _ ha)))
        have tyb : ∀ H0, Ex H H0 → ∀ H1, Ex H0 H1 → TyX K H1 (.ref b) (.type "list") := fun H0 e H1 e1 => .base (.lst (e1 _ _ (e _ _ hb2)))
        have sa : ∀ H0, Ex H H0 → Sq K H0 a xs := fun H0 e => .inl (sq_of (e _ _ ha))
        have sb : ∀ H0, Ex H H0 → Sq K H0 b ys := fun H0 e => .inl (sq_of (e _ _ hb2))
        refine q_when (b := false) (et_or (a := false) (b := false) (et_B (ev_isi (ev_var rfl) (tya _ (Ex.refl H)) (by decide +kernel))) fun _ => et_B (ev_isi (ev_var rfl) (tyb _ (Ex.refl H)) (by decide +kernel))) (fun z => by cases z) (fun _ H1 e1 => ?_)
        refine q_when (b := false) (et_is (et_or (et_test (ev_op (ev_var rfl) ev_c rv_isN)) fun _ => et_test (ev_op (ev_var rfl) ev_c rv_isN)) (by simp)) (fun z => by cases z) (fun _ H2 e2 => ?_)
        have e2 := e1.trans e2
        refine q_when (b := false) (et_or (a := false) (b := false) (et_B (ev_isi (ev_var rfl) (tyb _ e2) (by decide +kernel))) fun _ => et_B (ev_isi (ev_var rfl) (tyb _ e2) (by decide +kernel))) (fun z => by cases z) (fun _ H3 e3 => ?_)
        have e3 := e2.trans e3
        refine q_when (b := false) (et_B (ev_isi (ev_var rfl) (tyb _ e3) (by decide +kernel))) (fun z => by cases z) (fun _ H4 e4 => ?_)
        have e4 := e3.trans e4
        refine q_when (b := false) (et_is (et_or (et_test (ev_op (ev_isi (r := false) (ev_var rfl) (tya _ e4) (by decide +kernel)) (ev_isi (r := false) (ev_var rfl) (tyb _ e4) (by decide +kernel)) (rv_ne rfl))) fun _ => et_test (ev_op (ev_isi (r := true) (ev_var rfl) (tya _ e4) (by decide +kernel)) (ev_isi (r := true) (ev_var rfl) (tyb _ e4) (by decide +kernel)) (rv_ne rfl))) (by simp)) (fun z => by cases z) (fun _ H5 e5 => ?_)
        have e5 := e4.trans e5
        refine q_when (b := false) (et_is (et_or (et_not (et_B (ev_isiT2 (ev_var rfl) (tya _ e5) (.inr ⟨by decide +kernel, by decide +kernel⟩)))) fun _ => et_test (ev_op (ev_lenSq (ev_var rfl) (sa _ e5)) (ev_lenSq (ev_var rfl) (sb _ e5)) (rv_ne rfl))) (by simp [hl])) (fun z => by cases z) (fun _ H6 e6 => ?_)
        have e6 := e5.trans e6
        refine s_ret (ev_is (ev_notL (el_lcR1 (n := (ys.length : Int)) (fun _ => false) (fun i => .int (i : Int)) (ea_cons (ev_lenSq (ev_var rfl) (sb _ e6)) ea_nil) (by omega) (fun x => rfl) (fun i H7 e7 hi => ?_) (fun i H7 _ _ z => by cases z))) (by rw [given_none fun _ _ => rfl]; rfl)) fun H7 e7 => k H7 (e6.trans e7)
        have e7 := e6.trans e7
        have hi1 : i < xs.length := by omega
        have hi2 : i < ys.length := by omega
        have hx : xs[i]? = some xs[i] := List.getElem?_eq_getElem hi1
        have hy : ys[i]? = some ys[i] := List.getElem?_eq_getElem hi2
        exact et_not (a := true) (et_B (ev_call (z := .bl true) (ea_cons (ev_op (ev_var rfl) (ev_var rfl) (rv_ixSq (sa _ e7) (atI_nat hx))) (ea_cons (ev_op (ev_var rfl) (ev_var rfl) (rv_ixSq (sb _ e7) (atI_nat hy))) ea_nil)) (fun H8 e8 Q q E => ⟨xs[i], ys[i], rfl, (hp i _ _ hx hy).mono (e7.trans e8), fun H9 e9 => q H9 e9⟩)))
      · have tya : ∀ H0, Ex H H0 → ∀ H1, Ex H0 H1 → TyX K H1 (.ref a) (.type "tuple") := fun H0 e H1 e1 => .base (.tup (e1 _ _ (e _ _ ha)))
        have tyb : ∀ H0, Ex H H0 → ∀ H1, Ex H0 H1 → TyX K H1 (.ref b) (.type "tuple") := fun H0 e H1 e1 => .base (.tup (e1 _ _ (e _ _ hb2)))
        have sa : ∀ H0, Ex H H0 → Sq K H0 a xs := fun H0 e => .inr (st_of (e _ _ ha))
        have sb : ∀ H0, Ex H H0 → Sq K H0 b ys := fun H0 e => .inr (st_of (e _ _ hb2))
        refine q_when (b := false) (et_or (a := false) (b := false) (et_B (ev_isi (ev_var rfl) (tya _ (Ex.refl H)) (by decide +kernel))) fun _ => et_B (ev_isi (ev_var rfl) (tyb _ (Ex.refl H)) (by decide +kernel))) (fun z => by cases z) (fun _ H1 e1 => ?_)
        refine q_when (b := false) (et_is (et_or (et_test (ev_op (ev_var rfl) ev_c rv_isN)) fun _ => et_test (ev_op (ev_var rfl) ev_c rv_isN)) (by simp)) (fun z => by cases z) (fun _ H2 e2 => ?_)
        have e2 := e1.trans e2
        refine q_when (b := false) (et_or (a := false) (b := false) (et_B (ev_isi (ev_var rfl) (tyb _ e2) (by decide +kernel))) fun _ => et_B (ev_isi (ev_var rfl) (tyb _ e2) (by decide +kernel))) (fun z => by cases z) (fun _ H3 e3 => ?_)
        have e3 := e2.trans e3
        refine q_when (b := false) (et_B (ev_isi (ev_var rfl) (tyb _ e3) (by decide +kernel))) (fun z => by cases z) (fun _ H4 e4 => ?_)
        have e4 := e3.trans e4
        refine q_when (b := false) (et_is (et_or (et_test (ev_op (ev_isi (r := true) (ev_var rfl) (tya _ e4) (by decide +kernel)) (ev_isi (r := true) (ev_var rfl) (tyb _ e4) (by decide +kernel)) (rv_ne rfl))) fun _ => et_test (ev_op (ev_isi (r := false) (ev_var rfl) (tya _ e4) (by decide +kernel)) (ev_isi (r := false) (ev_var rfl) (tyb _ e4) (by decide +kernel)) (rv_ne rfl))) (by simp)) (fun z => by cases z) (fun _ H5 e5 => ?_)
        have e5 := e4.trans e5
        refine q_when (b := false) (et_is (et_or (et_not (et_B (ev_isiT2 (ev_var rfl) (tya _ e5) (.inl (by decide +kernel))))) fun _ => et_test (ev_op (ev_lenSq (ev_var rfl) (sa _ e5)) (ev_lenSq (ev_var rfl) (sb _ e5)) (rv_ne rfl))) (by simp [hl])) (fun z => by cases z) (fun _ H6 e6 => ?_)
        have e6 := e5.trans e6
        refine s_ret (ev_is (ev_notL (el_lcR1 (n := (ys.length : Int)) (fun _ => false) (fun i => .int (i : Int)) (ea_cons (ev_lenSq (ev_var rfl) (sb _ e6)) ea_nil) (by omega) (fun x => rfl) (fun i H7 e7 hi => ?_) (fun i H7 _ _ z => by cases z))) (by rw [given_none fun _ _ => rfl]; rfl)) fun H7 e7 => k H7 (e6.trans e7)
        have e7 := e6.trans e7
        have hi1 : i < xs.length := by omega
        have hi2 : i < ys.length := by omega
        have hx : xs[i]? = some xs[i] := List.getElem?_eq_getElem hi1
        have hy : ys[i]? = some ys[i] := List.getElem?_eq_getElem hi2
        exact et_not (a := true) (et_B (ev_call (z := .bl true) (ea_cons (ev_op (ev_var rfl) (ev_var rfl) (rv_ixSq (sa _ e7) (atI_nat hx))) (ea_cons (ev_op (ev_var rfl) (ev_var rfl) (rv_ixSq (sb _ e7) (atI_nat hy))) ea_nil)) (fun H8 e8 Q q E => ⟨xs[i], ys[i], rfl, (hp i _ _ hx hy).mono (e7.trans e8), fun H9 e9 => q H9 e9⟩)))
theorem ok_same {f : Addr} {fd : FuncData} (D : DefAt K mg 20 "_law_same" ["told", "due"] f fd) (N : Nm mg) (M : NmS mg) : ∀ n, FnOk P w K mg base CX0 (n + 1) f fd ["told", "due"] (spSame n)
  | 0 => ok_same0 D N M
  | n + 1 => ok_sameS D N M (ok_same D N M n)
theorem okT_same {f : Addr} {fd : FuncData} (D : DefAt K mg 20 "_law_same" ["told", "due"] f fd) (N : Nm mg) (M : NmS mg) : ∀ n, FnT P w K mg base (n + 1) f fd ["told", "due"] (spSame n)
  | 0 => okT_same0 D N M
  | n + 1 => okT_sameS D N M (okT_same D N M n)
end
end K01
-- E7
namespace K01
open PySem PySem.Spec PyProof.Rows L2 L2H Evl KEv TL KDd KSq KSame KHot KSup
/-! the own errors, _law_kinds -/
inductive EK where
  | count | name | twice | cap | unk | term
  deriving DecidableEq
def nmE : EK → Str
  | .count => "BadCount"
  | .name => "BadName"
  | .twice => "Twice"
  | .cap => "BadCapital"
  | .unk => "UnknownName"
  | .term => "BadTerm"
def fl : EK → List Str
  | .count => ["what"]
  | .name => ["name"]
  | .twice => ["name"]
  | .cap => ["capital"]
  | .unk => ["name"]
  | .term => ["text", "place"]
structure Errs (prog : Program) (K : PySem.W.Frag) (mg : Str → Option Value) (ec fi : EK → Addr) : Prop where
  t : ∀ k, SupTxt prog K mg (nmE k) (ec k) (fi k) (fl k)
  x : ∀ k, ExcC K (ec k)
  kit : ∀ j k, PySem.W.kitOne K (.ref (ec j)) (.ref (ec k)) = some (decide (j = k))
/-- at a: an error of the kind k with the fields fv -/
def ErrAt (ec : EK → Addr) (H : Hp) (a : Addr) (k : EK) (fv : List V) : Prop := ∃ dd, XcAt H a (.ref (ec k)) (some dd) ∧ H dd = some (.xd ((fl k).zip fv).reverse)
theorem ErrAt.mono {ec : EK → Addr} {H H' : Hp} {a : Addr} {k : EK} {fv : List V} (h : ErrAt ec H a k fv) (e : Ex H H') : ErrAt ec H' a k fv := by
  obtain ⟨dd, ⟨oe, vs, h1, h2⟩, h3⟩ := h
  exact ⟨dd, ⟨oe, vs, e _ _ h1, h2⟩, e _ _ h3⟩
section
variable {prog : Program} {P : Program} {w : World} {K : PySem.W.Frag} {mg : Str → Option Value} {base : Heap} {ec fi : EK → Addr} {σ : L2.St} {H : Hp} {a : Addr} {ta : TE} {fv : List V}
theorem ev_isX {j k : EK} (E : Errs prog K mg ec fi) (h : Ev ta σ H (.ref a)) (hF : ErrAt ec H a j fv) : Ev (tCB (rIsX K) (tCons ta (tCons (tC (.ref (ec k))) tNil))) σ H (.bl (decide (j = k))) :=
  ev_cb (ea_cons h (ea_cons ev_c ea_nil)) fun H1 e Q q => by
    obtain ⟨dd, h1, h2⟩ := hF.mono e
    exact ⟨a, _, dd, _, .ref (ec k), .ref (ec k), _, rfl, h1, h2, E.x j, fun u r => r, E.kit j k, q H1 (Ex.refl H1)⟩
theorem ev_xa {j : EK} {f : Str} {v : V} (E : Errs prog K mg ec fi) (h : Ev ta σ H (.ref a)) (hF : ErrAt ec H a j fv) (hf : (((fl j).zip fv).reverse).lookup f = some v ∧ f ∈ fl j) : Ev (tXa K f ta) σ H v := fun H1 e Q q =>
  h H1 e _ fun H2 e2 => by
    obtain ⟨dd, h1, h2⟩ := hF.mono (e.trans e2)
    exact ⟨a, _, dd, _, v, rfl, h1, h2, hf.1, ⟨(E.x j).hg, (E.x j).hk, (E.x j).hs, (E.x j).hd⟩, (E.t j).no f hf.2, q H2 e2⟩
theorem BadCount_0 {v : V} : (((fl .count).zip [v]).reverse).lookup ("what" : Str) = some v ∧ ("what" : Str) ∈ fl .count := ⟨by with_unfolding_all rfl, by decide⟩
theorem BadName_0 {v : V} : (((fl .name).zip [v]).reverse).lookup ("name" : Str) = some v ∧ ("name" : Str) ∈ fl .name := ⟨by with_unfolding_all rfl, by decide⟩
theorem Twice_0 {v : V} : (((fl .twice).zip [v]).reverse).lookup ("name" : Str) = some v ∧ ("name" : Str) ∈ fl .twice := ⟨by with_unfolding_all rfl, by decide⟩
theorem BadCapital_0 {v : V} : (((fl .cap).zip [v]).reverse).lookup ("capital" : Str) = some v ∧ ("capital" : Str) ∈ fl .cap := ⟨by with_unfolding_all rfl, by decide⟩
theorem UnknownName_0 {v : V} : (((fl .unk).zip [v]).reverse).lookup ("name" : Str) = some v ∧ ("name" : Str) ∈ fl .unk := ⟨by with_unfolding_all rfl, by decide⟩
theorem BadTerm_0 {v u : V} : (((fl .term).zip [v, u]).reverse).lookup ("text" : Str) = some v ∧ ("text" : Str) ∈ fl .term := ⟨by with_unfolding_all rfl, by decide⟩
theorem BadTerm_1 {v u : V} : (((fl .term).zip [v, u]).reverse).lookup ("place" : Str) = some u ∧ ("place" : Str) ∈ fl .term := ⟨by with_unfolding_all rfl, by decide⟩
theorem one_of {l : List V} (h : l.length = 1) : ∃ v, l = [v] := by
  match l, h with
  | [v], _ => exact ⟨v, rfl⟩
theorem two_of {l : List V} (h : l.length = 2) : ∃ v u, l = [v, u] := by
  match l, h with
  | [v, u], _ => exact ⟨v, u, rfl⟩
/-- the list of the one tuple that tells an error -/
def RetK (k : EK) (fv : List V) (H : Hp) (Q : VK) : Prop := ∀ p q H2, H p = none → Ex H H2 → H2 p = some (.lst [.ref q]) → H2 q = some (.tup (.str (nmE k) :: fv)) → Q (.ref p) H2
def spKinds (ec : EK → Addr) : Sp := fun vs H Q _ => ∃ a k fv, vs = [.ref a] ∧ ErrAt ec H a k fv ∧ fv.length = (fl k).length ∧ RetK k fv H Q
theorem scKinds : FnScope ["fault", "found"] ["fault"] (defScope (topS 31)) := ⟨rfl, rfl, rfl, by decide +kernel, rfl, by decide +kernel, by decide +kernel⟩
theorem okT_kinds {f : Addr} {fd : FuncData} (D : DefAt K mg 31 "_law_kinds" ["fault"] f fd) (M : NmS mg) (E : Errs prog K mg ec fi) : FnT P w K mg base 1 f fd ["fault"] (spKinds ec) := by
  refine okT D.F scKinds (fun vs H Q E h => ?_) (fun cdv A outer s H vs Q E0 hr hot h => ?_)
  · obtain ⟨a, k, fv, rfl, _⟩ := h
    rfl
  · obtain ⟨a, k, fv, rfl, hF, hl, k0⟩ := h
    refine ⟨_, pss_cons (ps_set (i := 1) scKinds.nd rfl (.inl rfl) (pe_lst pa_nil)) (pss_cons (ps_if (pt_val (pe_callB call_isX (by rfl) M.isi (by decide +kernel) (pa_cons (pv 0) (pa_cons (pe_glob (v := .ref (ec .count)) (by rfl) (E.t .count).gC rfl) pa_nil)))) (pss_one (ps_expr (pe_bm PySem.F.plainAttrs_list PySem.F.slot_list_append PySem.F.type_list_append mt_append (pv 1) (pa_cons (pe_tup (pa_cons pe_str (pa_cons (pe_xa (pv 0)) pa_nil))) pa_nil)))) pss_nil) (pss_cons (ps_if (pt_val (pe_callB call_isX (by rfl) M.isi (by decide +kernel) (pa_cons (pv 0) (pa_cons (pe_glob (v := .ref (ec .name)) (by rfl) (E.t .name).gC rfl) pa_nil)))) (pss_one (ps_expr (pe_bm PySem.F.plainAttrs_list PySem.F.slot_list_append PySem.F.type_list_append mt_append (pv 1) (pa_cons (pe_tup (pa_cons pe_str (pa_cons (pe_xa (pv 0)) pa_nil))) pa_nil)))) pss_nil) (pss_cons (ps_if (pt_val (pe_callB call_isX (by rfl) M.isi (by decide +kernel) (pa_cons (pv 0) (pa_cons (pe_glob (v := .ref (ec .twice)) (by rfl) (E.t .twice).gC rfl) pa_nil)))) (pss_one (ps_expr (pe_bm PySem.F.plainAttrs_list PySem.F.slot_list_append PySem.F.type_list_append mt_append (pv 1) (pa_cons (pe_tup (pa_cons pe_str (pa_cons (pe_xa (pv 0)) pa_nil))) pa_nil)))) pss_nil) (pss_cons (ps_if (pt_val (pe_callB call_isX (by rfl) M.isi (by decide +kernel) (pa_cons (pv 0) (pa_cons (pe_glob (v := .ref (ec .cap)) (by rfl) (E.t .cap).gC rfl) pa_nil)))) (pss_one (ps_expr (pe_bm PySem.F.plainAttrs_list PySem.F.slot_list_append PySem.F.type_list_append mt_append (pv 1) (pa_cons (pe_tup (pa_cons pe_str (pa_cons (pe_xa (pv 0)) pa_nil))) pa_nil)))) pss_nil) (pss_cons (ps_if (pt_val (pe_callB call_isX (by rfl) M.isi (by decide +kernel) (pa_cons (pv 0) (pa_cons (pe_glob (v := .ref (ec .unk)) (by rfl) (E.t .unk).gC rfl) pa_nil)))) (pss_one (ps_expr (pe_bm PySem.F.plainAttrs_list PySem.F.slot_list_append PySem.F.type_list_append mt_append (pv 1) (pa_cons (pe_tup (pa_cons pe_str (pa_cons (pe_xa (pv 0)) pa_nil))) pa_nil)))) pss_nil) (pss_cons (ps_if (pt_val (pe_callB call_isX (by rfl) M.isi (by decide +kernel) (pa_cons (pv 0) (pa_cons (pe_glob (v := .ref (ec .term)) (by rfl) (E.t .term).gC rfl) pa_nil)))) (pss_one (ps_expr (pe_bm PySem.F.plainAttrs_list PySem.F.slot_list_append PySem.F.type_list_append mt_append (pv 1) (pa_cons (pe_tup (pa_cons pe_str (pa_cons (pe_xa (pv 0)) (pa_cons (pe_xa (pv 0)) pa_nil)))) pa_nil)))) pss_nil) (pss_one (ps_ret (pv 1))))))))), ?_⟩
    refine q_asgL (el_lst ea_nil (by decide)) fun p H1 hp e0 h1 => ?_
    cases k with
    | count =>
      obtain ⟨v, rfl⟩ := one_of hl
      refine q_when (b := true) (et_B (ev_isX E (j := .count) (k := .count) (ev_var rfl) (hF.mono e0))) (fun _ H2 e2 => ?_) (fun z => by cases z)
      have e0 := e0.trans e2
      have h1 := e2 _ _ h1
      refine s_appU h1 (ev_var rfl) (eu_tup (ea_cons ev_c (ea_cons (ev_xa E (ev_var rfl) (hF.mono e0) BadCount_0) ea_nil)) (by simp)) (by decide) fun q G0 _ eg0 hq => ?_
      have e0 := (e0.trans eg0).mut (o := .lst [.ref q]) hp
      have nq : q ≠ p := fun z => by
        rw [z, eg0 _ _ h1] at hq
        cases hq
      have h2 : (upd G0 p (.lst ([] ++ [.ref q]))) q = some (.tup (.str "BadCount" :: [v])) := by rw [upd_ne nq]; exact hq
      have h1 : (upd G0 p (.lst ([] ++ [.ref q]))) p = some (.lst [.ref q]) := upd_same
      refine q_when (b := false) (et_B (ev_isX E (j := .count) (k := .name) (ev_var rfl) (hF.mono e0))) (fun z => by cases z) (fun _ H3 e3 => ?_)
      have e0 := e0.trans e3
      have h1 := e3 _ _ h1
      have h2 := e3 _ _ h2
      refine q_when (b := false) (et_B (ev_isX E (j := .count) (k := .twice) (ev_var rfl) (hF.mono e0))) (fun z => by cases z) (fun _ H4 e4 => ?_)
      have e0 := e0.trans e4
      have h1 := e4 _ _ h1
      have h2 := e4 _ _ h2
      refine q_when (b := false) (et_B (ev_isX E (j := .count) (k := .cap) (ev_var rfl) (hF.mono e0))) (fun z => by cases z) (fun _ H5 e5 => ?_)
      have e0 := e0.trans e5
      have h1 := e5 _ _ h1
      have h2 := e5 _ _ h2
      refine q_when (b := false) (et_B (ev_isX E (j := .count) (k := .unk) (ev_var rfl) (hF.mono e0))) (fun z => by cases z) (fun _ H6 e6 => ?_)
      have e0 := e0.trans e6
      have h1 := e6 _ _ h1
      have h2 := e6 _ _ h2
      refine q_when (b := false) (et_B (ev_isX E (j := .count) (k := .term) (ev_var rfl) (hF.mono e0))) (fun z => by cases z) (fun _ H7 e7 => ?_)
      have e0 := e0.trans e7
      have h1 := e7 _ _ h1
      have h2 := e7 _ _ h2
      exact s_ret (ev_var rfl) fun Hz ez => k0 p q Hz hp (e0.trans ez) (ez _ _ h1) (ez _ _ h2)
    | name =>
      obtain ⟨v, rfl⟩ := one_of hl
      refine q_when (b := false) (et_B (ev_isX E (j := .name) (k := .count) (ev_var rfl) (hF.mono e0))) (fun z => by cases z) (fun _ H2 e2 => ?_)
      have e0 := e0.trans e2
      have h1 := e2 _ _ h1
      refine q_when (b := true) (et_B (ev_isX E (j := .name) (k := .name) (ev_var rfl) (hF.mono e0))) (fun _ H3 e3 => ?_) (fun z => by cases z)
      have e0 := e0.trans e3
      have h1 := e3 _ _ h1
      refine s_appU h1 (ev_var rfl) (eu_tup (ea_cons ev_c (ea_cons (ev_xa E (ev_var rfl) (hF.mono e0) BadName_0) ea_nil)) (by simp)) (by decide) fun q G1 _ eg1 hq => ?_
      have e0 := (e0.trans eg1).mut (o := .lst [.ref q]) hp
      have nq : q ≠ p := fun z => by
        rw [z, eg1 _ _ h1] at hq
        cases hq
      have h2 : (upd G1 p (.lst ([] ++ [.ref q]))) q = some (.tup (.str "BadName" :: [v])) := by rw [upd_ne nq]; exact hq
      have h1 : (upd G1 p (.lst ([] ++ [.ref q]))) p = some (.lst [.ref q]) := upd_same
      refine q_when (b := false) (et_B (ev_isX E (j := .name) (k := .twice) (ev_var rfl) (hF.mono e0))) (fun z => by cases z) (fun _ H4 e4 => ?_)
      have e0 := e0.trans e4
      have h1 := e4 _ _ h1
      have h2 := e4 _ _ h2
      refine q_when (b := false) (et_B (ev_isX E (j := .name) (k := .cap) (ev_var rfl) (hF.mono e0))) (fun z => by cases z) (fun _ H5 e5 => ?_)
      have e0 := e0.trans e5
      have h1 := e5 _ _ h1
      have h2 := e5 _ _ h2
      refine q_when (b := false) (et_B (ev_isX E (j := .name) (k := .unk) (ev_var rfl) (hF.mono e0))) (fun z => by cases z) (fun _ H6 e6 => ?_)
      have e0 := e0.trans e6
      have h1 := e6 _ _ h1
      have h2 := e6 _ _ h2
      refine q_when (b := false) (et_B (ev_isX E (j := .name) (k := .term) (ev_var rfl) (hF.mono e0))) (fun z => by cases z) (fun _ H7 e7 => ?_)
      have e0 := e0.trans e7
      have h1 := e7 _ _ h1
      have h2 := e7 _ _ h2
      exact s_ret (ev_var rfl) fun Hz ez => k0 p q Hz hp (e0.trans ez) (ez _ _ h1) (ez _ _ h2)
    | twice =>
      obtain ⟨v, rfl⟩ := one_of hl
      refine q_when (b := false) (et_B (ev_isX E (j := .twice) (k := .count) (ev_var rfl) (hF.mono e0))) (fun z => by cases z) (fun _ H2 e2 => ?_)
      have e0 := e0.trans e2
      have h1 := e2 _ _ h1
      refine q_when (b := false) (et_B (ev_isX E (j := .twice) (k := .name) (ev_var rfl) (hF.mono e0))) (fun z => by cases z) (fun _ H3 e3 => ?_)
      have e0 := e0.trans e3
      have h1 := e3 _ _ h1
      refine q_when (b := true) (et_B (ev_isX E (j := .twice) (k := .twice) (ev_var rfl) (hF.mono e0))) (fun _ H4 e4 => ?_) (fun z => by cases z)
      have e0 := e0.trans e4
      have h1 := e4 _ _ h1
      refine s_appU h1 (ev_var rfl) (eu_tup (ea_cons ev_c (ea_cons (ev_xa E (ev_var rfl) (hF.mono e0) Twice_0) ea_nil)) (by simp)) (by decide) fun q G2 _ eg2 hq => ?_
      have e0 := (e0.trans eg2).mut (o := .lst [.ref q]) hp
      have nq : q ≠ p := fun z => by
        rw [z, eg2 _ _ h1] at hq
        cases hq
      have h2 : (upd G2 p (.lst ([] ++ [.ref q]))) q = some (.tup (.str "Twice" :: [v])) := by rw [upd_ne nq]; exact hq
      have h1 : (upd G2 p (.lst ([] ++ [.ref q]))) p = some (.lst [.ref q]) := upd_same
      refine q_when (b := false) (et_B (ev_isX E (j := .twice) (k := .cap) (ev_var rfl) (hF.mono e0))) (fun z => by cases z) (fun _ H5 e5 => ?_)
      have e0 := e0.trans e5
      have h1 := e5 _ _ h1
      have h2 := e5 _ _ h2
      refine q_when (b := false) (et_B (ev_isX E (j := .twice) (k := .unk) (ev_var rfl) (hF.mono e0))) (fun z => by cases z) (fun _ H6 e6 => ?_)
      have e0 := e0.trans e6
      have h1 := e6 _ _ h1
      have h2 := e6 _ _ h2
      refine q_when (b := false) (et_B (ev_isX E (j := .twice) (k := .term) (ev_var rfl) (hF.mono e0))) (fun z => by cases z) (fun _ H7 e7 => ?_)
      have e0 := e0.trans e7
      have h1 := e7 _ _ h1
      have h2 := e7 _ _ h2
      exact s_ret (ev_var rfl) fun Hz ez => k0 p q Hz hp (e0.trans ez) (ez _ _ h1) (ez _ _ h2)
    | cap =>
      obtain ⟨v, rfl⟩ := one_of hl
      refine q_when (b := false) (et_B (ev_isX E (j := .cap) (k := .count) (ev_var rfl) (hF.mono e0))) (fun z => by cases z) (fun _ H2 e2 => ?_)
      have e0 := e0.trans e2
      have h1 := e2 _ _ h1
      refine q_when (b := false) (et_B (ev_isX E (j := .cap) (k := .name) (ev_var rfl) (hF.mono e0))) (fun z => by cases z) (fun _ H3 e3 => ?_)
      have e0 := e0.trans e3
      have h1 := e3 _ _ h1
      refine q_when (b := false) (et_B (ev_isX E (j := .cap) (k := .twice) (ev_var rfl) (hF.mono e0))) (fun z => by cases z) (fun _ H4 e4 => ?_)
      have e0 := e0.trans e4
      have h1 := e4 _ _ h1
      refine q_when (b := true) (et_B (ev_isX E (j := .cap) (k := .cap) (ev_var rfl) (hF.mono e0))) (fun _ H5 e5 => ?_) (fun z => by cases z)
      have e0 := e0.trans e5
      have h1 := e5 _ _ h1
      refine s_appU h1 (ev_var rfl) (eu_tup (ea_cons ev_c (ea_cons (ev_xa E (ev_var rfl) (hF.mono e0) BadCapital_0) ea_nil)) (by simp)) (by decide) fun q G3 _ eg3 hq => ?_
      have e0 := (e0.trans eg3).mut (o := .lst [.ref q]) hp
      have nq : q ≠ p := fun z => by
        rw [z, eg3 _ _ h1] at hq
        cases hq
      have h2 : (upd G3 p (.lst ([] ++ [.ref q]))) q = some (.tup (.str "BadCapital" :: [v])) := by rw [upd_ne nq]; exact hq
      have h1 : (upd G3 p (.lst ([] ++ [.ref q]))) p = some (.lst [.ref q]) := upd_same
      refine q_when (b := false) (et_B (ev_isX E (j := .cap) (k := .unk) (ev_var rfl) (hF.mono e0))) (fun z => by cases z) (fun _ H6 e6 => ?_)
      have e0 := e0.trans e6
      have h1 := e6 _ _ h1
      have h2 := e6 _ _ h2
      refine q_when (b := false) (et_B (ev_isX E (j := .cap) (k := .term) (ev_var rfl) (hF.mono e0))) (fun z => by cases z) (fun _ H7 e7 => ?_)
      have e0 := e0.trans e7
      have h1 := e7 _ _ h1
      have h2 := e7 _ _ h2
      exact s_ret (ev_var rfl) fun Hz ez => k0 p q Hz hp (e0.trans ez) (ez _ _ h1) (ez _ _ h2)
    | unk =>
      obtain ⟨v, rfl⟩ := one_of hl
      refine q_when (b := false) (et_B (ev_isX E (j := .unk) (k := .count) (ev_var rfl) (hF.mono e0))) (fun z => by cases z) (fun _ H2 e2 => ?_)
      have e0 := e0.trans e2
      have h1 := e2 _ _ h1
      refine q_when (b := false) (et_B (ev_isX E (j := .unk) (k := .name) (ev_var rfl) (hF.mono e0))) (fun z => by cases z) (fun _ H3 e3 => ?_)
      have e0 := e0.trans e3
      have h1 := e3 _ _ h1
      refine q_when (b := false) (et_B (ev_isX E (j := .unk) (k := .twice) (ev_var rfl) (hF.mono e0))) (fun z => by cases z) (fun _ H4 e4 => ?_)
      have e0 := e0.trans e4
      have h1 := e4 _ _ h1
      refine q_when (b := false) (et_B (ev_isX E (j := .unk) (k := .cap) (ev_var rfl) (hF.mono e0))) (fun z => by cases z) (fun _ H5 e5 => ?_)
      have e0 := e0.trans e5
      have h1 := e5 _ _ h1
      refine q_when (b := true) (et_B (ev_isX E (j := .unk) (k := .unk) (ev_var rfl) (hF.mono e0))) (fun _ H6 e6 => ?_) (fun z => by cases z)
      have e0 := e0.trans e6
      have h1 := e6 _ _ h1
      refine s_appU h1 (ev_var rfl) (eu_tup (ea_cons ev_c (ea_cons (ev_xa E (ev_var rfl) (hF.mono e0) UnknownName_0) ea_nil)) (by simp)) (by decide) fun q G4 _ eg4 hq => ?_
      have e0 := (e0.trans eg4).mut (o := .lst [.ref q]) hp
      have nq : q ≠ p := fun z => by
        rw [z, eg4 _ _ h1] at hq
        cases hq
      have h2 : (upd G4 p (.lst ([] ++ [.ref q]))) q = some (.tup (.str "UnknownName" :: [v])) := by rw [upd_ne nq]; exact hq
      have h1 : (upd G4 p (.lst ([] ++ [.ref q]))) p = some (.lst [.ref q]) := upd_same
      refine q_when (b := false) (et_B (ev_isX E (j := .unk) (k := .term) (ev_var rfl) (hF.mono e0))) (fun z => by cases z) (fun _ H7 e7 => ?_)
      have e0 := e0.trans e7
      have h1 := e7 _ _ h1
      have h2 := e7 _ _ h2
      exact s_ret (ev_var rfl) fun Hz ez => k0 p q Hz hp (e0.trans ez) (ez _ _ h1) (ez _ _ h2)
    | term =>
      obtain ⟨v, u, rfl⟩ := two_of hl
      refine q_when (b := false) (et_B (ev_isX E (j := .term) (k := .count) (ev_var rfl) (hF.mono e0))) (fun z => by cases z) (fun _ H2 e2 => ?_)
      have e0 := e0.trans e2
      have h1 := e2 _ _ h1
      refine q_when (b := false) (et_B (ev_isX E (j := .term) (k := .name) (ev_var rfl) (hF.mono e0))) (fun z => by cases z) (fun _ H3 e3 => ?_)
      have e0 := e0.trans e3
      have h1 := e3 _ _ h1
      refine q_when (b := false) (et_B (ev_isX E (j := .term) (k := .twice) (ev_var rfl) (hF.mono e0))) (fun z => by cases z) (fun _ H4 e4 => ?_)
      have e0 := e0.trans e4
      have h1 := e4 _ _ h1
      refine q_when (b := false) (et_B (ev_isX E (j := .term) (k := .cap) (ev_var rfl) (hF.mono e0))) (fun z => by cases z) (fun _ H5 e5 => ?_)
      have e0 := e0.trans e5
      have h1 := e5 _ _ h1
      refine q_when (b := false) (et_B (ev_isX E (j := .term) (k := .unk) (ev_var rfl) (hF.mono e0))) (fun z => by cases z) (fun _ H6 e6 => ?_)
      have e0 := e0.trans e6
      have h1 := e6 _ _ h1
      refine q_when (b := true) (et_B (ev_isX E (j := .term) (k := .term) (ev_var rfl) (hF.mono e0))) (fun _ H7 e7 => ?_) (fun z => by cases z)
      have e0 := e0.trans e7
      have h1 := e7 _ _ h1
      refine s_appU h1 (ev_var rfl) (eu_tup (ea_cons ev_c (ea_cons (ev_xa E (ev_var rfl) (hF.mono e0) BadTerm_0) (ea_cons (ev_xa E (ev_var rfl) (hF.mono e0) BadTerm_1) ea_nil))) (by simp)) (by decide) fun q G5 _ eg5 hq => ?_
      have e0 := (e0.trans eg5).mut (o := .lst [.ref q]) hp
      have nq : q ≠ p := fun z => by
        rw [z, eg5 _ _ h1] at hq
        cases hq
      have h2 : (upd G5 p (.lst ([] ++ [.ref q]))) q = some (.tup (.str "BadTerm" :: [v, u])) := by rw [upd_ne nq]; exact hq
      have h1 : (upd G5 p (.lst ([] ++ [.ref q]))) p = some (.lst [.ref q]) := upd_same
      exact s_ret (ev_var rfl) fun Hz ez => k0 p q Hz hp (e0.trans ez) (ez _ _ h1) (ez _ _ h2)
end
end K01
-- E8
namespace K01
open PySem PySem.Spec PyProof.Rows L2 Evl KEv TL KDd KSq KSame KTxt KHot KSup
/-! the class Signature: what is due, its dicts, _add_sort -/
/-- a def that may raise -/
theorem okXN {P : Program} {w : World} {K : PySem.W.Frag} {mg : Str → Option Value} {base : Heap} {x qual : Str} {st : Stmt} {f : Addr} {fd : FuncData} {N ps : List Str} {k : Nat} {sp : Sp} (F : Fun K x qual st f fd) (S : FnScope N ps (defScope st)) (len : ∀ vs H Q E, sp vs H Q E → vs.length = ps.length)
    (hbody : ∀ (cdv : Value) (A : Around) (outer : List Env) (s : Shared) (H : Hp) (vs : List V) (Q : VK) (E : XK), Room k (A.deeper (envOfC qual (defScope st) s.heap.objs.size f cdv)) → sp vs H Q E →
      ∃ t, PSs (cxOf (L2N.CX P w) P w K mg base N qual (defScope st) f cdv A outer s H E) (defBody st) t ∧ t { nx := fun _ H' => Q .non H', rt := Q } (start N vs) H) : FnOk P w K mg base (L2N.CX P w) (k + 1) f fd ps sp := by
  obtain ⟨oc, od, kV, doc, pm, an, cdv, ct, osl, rfl, lk, hcd⟩ := F.ex
  exact fn_of lk hcd S len fun A outer s H vs Q E hr hsp => hbody cdv A outer s H vs Q E hr hsp
abbrev Row := Str × Str
/-- one capital -/
def capB (l : List Nat) : Bool := decide (l.length = 1) && headIn (tl capitals) l
def sortFault (done : List Row) (n c : Str) : Option (EK × Str) :=
  if nameB (tl n) = false then some (.name, n) else if decide (n ∈ done.map (·.1)) = true then some (.twice, n) else if capB (tl c) = false then some (.cap, c) else if decide (c ∈ done.map (·.2)) = true then some (.twice, c) else none
def dkv {α : Type} (k : α → Str) (v : α → V) (l : List α) : List (Key × V) := l.map fun r => (Sum.inr (k r), v r)
abbrev capK (done : List Row) : List (Key × V) := dkv (·.1) (fun r => V.str r.2) done
abbrev sorK (done : List Row) : List (Key × V) := dkv (·.2) (fun r => V.str r.1) done
theorem dkv_some {α : Type} (k : α → Str) (v : α → V) (x : Str) : ∀ l : List α, (valV (dkv k v l) (Sum.inr x)).isSome = decide (x ∈ l.map k)
  | [] => rfl
  | r :: l => by
    by_cases e : k r = x
    · have z := valV_pos (p := ((Sum.inr (k r) : Key), v r)) (r := dkv k v l) (k := Sum.inr x) (by rw [e])
      show (valV ((Sum.inr (k r), v r) :: dkv k v l) (Sum.inr x)).isSome = _
      rw [z]
      simp [e]
    · have z := valV_neg (p := ((Sum.inr (k r) : Key), v r)) (r := dkv k v l) (k := Sum.inr x) (fun z => e (Sum.inr.inj z))
      show (valV ((Sum.inr (k r), v r) :: dkv k v l) (Sum.inr x)).isSome = _
      rw [z, dkv_some k v x l]
      have e' : ¬ x = k r := fun z => e z.symm
      simp [e']
theorem dkv_put {α : Type} {k : α → Str} {v : α → V} {l : List α} {r : α} (h : decide (k r ∈ l.map k) = false) : putK (dkv k v l) (Sum.inr (k r)) (v r) = dkv k v (l ++ [r]) := by
  rw [putK_new _ (by
    have := dkv_some k v (k r) l
    rw [h] at this
    cases e : valV (dkv k v l) (Sum.inr (k r)) with
    | none => rfl
    | some u => rw [e] at this; cases this)]
  simp [dkv]
theorem dkv_len {α : Type} {k : α → Str} {v : α → V} {l : List α} : (dkv k v l).length = l.length := by simp [dkv]
/-- the instance's attributes -/
def AtI (C : Addr) (H : Hp) (a : Addr) (m : List (Str × V)) : Prop := ∃ dx fs, H a = some (.ins C dx fs) ∧ ∀ p ∈ m, fs.lookup p.1 = some p.2
theorem AtI.mono {C : Addr} {H H' : Hp} {a : Addr} {m : List (Str × V)} (h : AtI C H a m) (e : H a = H' a) : AtI C H' a m := by
  obtain ⟨dx, fs, h1, h2⟩ := h
  exact ⟨dx, fs, e ▸ h1, h2⟩
structure SigC (K : PySem.W.Frag) (C : Addr) : Prop where
  cl : Cls K C
  na : ∀ f ∈ (["_capitals", "_sorts", "_arguments", "_results", "sorts", "signs", "said"] : List Str), NoAttr K C f
section
variable {P : Program} {w : World} {K : PySem.W.Frag} {mg : Str → Option Value} {base : Heap} {ec fi : EK → Addr} {C : Addr} {σ : L2.St} {H : Hp} {ta ty td : TE}
theorem ev_fld {a : Addr} {m : List (Str × V)} {f : Str} {v : V} (S : SigC K C) (h : Ev ta σ H (.ref a)) (hA : AtI C H a m) (hm : (f, v) ∈ m) (hf : f ∈ (["_capitals", "_sorts", "_arguments", "_results", "sorts", "signs", "said"] : List Str)) : Ev (tFld K ta f) σ H v := fun H1 e Q q =>
  h H1 e _ fun H2 e2 => by
    obtain ⟨dx, fs, h1, h2⟩ := hA
    exact ⟨a, C, dx, fs, v, rfl, e2 _ _ (e _ _ h1), S.cl, S.na f hf, h2 _ hm, q H2 e2⟩
theorem ev_din {a : Addr} {kvs : List (Key × V)} {k : Key} (hk : Ev ty σ H (kV k)) (hd : Ev td σ H (.ref a)) (h : H a = some (.dK kvs)) : Ev (tDIn ty td) σ H (.bl (valV kvs k).isSome) := fun H1 e Q q =>
  hk H1 e _ fun H2 e2 => hd H2 (e.trans e2) _ fun H3 e3 => ⟨a, _, rfl, DGet.k (e3 _ _ (e2 _ _ (e _ _ h))), q H3 (e2.trans e3)⟩
/-- all but these stand -/
def ExB (bs : List Addr) (H H' : Hp) : Prop := ∀ b o, b ∉ bs → H b = some o → H' b = some o
/-- a raise of the kind k with the text s -/
def RaisesE (ec : EK → Addr) (k : EK) (s : Str) (H : Hp) (E : XK) : Prop := ∀ d H', H d = none → Ex H H' → H' d = some (.xd ((fl k).zip [V.str s]).reverse) → E (.ref (ec k)) (some d) H'
theorem RaisesE.mono {k : EK} {s : Str} {H' : Hp} {E : XK} (h : RaisesE ec k s H E) (e : Ex H H') : RaisesE ec k s H' E := fun d H2 hd e2 h2 => h d H2 (fresh_back e hd) (e.trans e2) h2
theorem AtI.ex {H' : Hp} {a : Addr} {m : List (Str × V)} (h : AtI C H a m) (e : Ex H H') : AtI C H' a m := by
  obtain ⟨dx, fs, h1, h2⟩ := h
  exact ⟨dx, fs, e _ _ h1, h2⟩
theorem AtI.upd {a p : Addr} {m : List (Str × V)} {o u : HO} (h : AtI C H a m) (hp : H p = some o) (ho : ∀ D dx fs, o ≠ .ins D dx fs) : AtI C (upd H p u) a m := by
  obtain ⟨dx, fs, h1, h2⟩ := h
  refine ⟨dx, fs, ?_, h2⟩
  rw [upd_ne (fun z => by
    rw [z, hp] at h1
    exact ho _ _ _ (Option.some.inj h1))]
  exact h1
theorem s_raise {k : EK} {s : Str} {te : TE} {E : XK} (h : Ev te σ H (.str s)) (hl : (fl k).length = 1) (hE : RaisesE ec k s H E) : tMkS (ec k) (fl k) (tCons te tNil) σ H fun cls d H' => E cls d H' :=
  (ea_cons h ea_nil) H (Ex.refl H) _ fun H1 e1 => ⟨hl.symm, fun d hd => hE d _ (fresh_back e1 hd) (e1.trans (Ex.new hd)) upd_same⟩
def spAddSort (ec : EK → Addr) (C : Addr) : Sp := fun vs H Q E => ∃ (a pc ps : Addr) (done : List Row) (n c : Str), vs = [.ref a, .str n, .str c] ∧ AtI C H a [("_capitals", .ref pc), ("_sorts", .ref ps)] ∧ pc ≠ ps ∧ H pc = some (.dK (capK done)) ∧ H ps = some (.dK (sorK done)) ∧ done.length ≤ 100 ∧ n.length ≤ 100000 ∧ c.length ≤ 100000 ∧
  (∀ k s, sortFault done n c = some (k, s) → RaisesE ec k s H E) ∧
  (sortFault done n c = none → ∀ H', ExB [pc, ps] H H' → H' pc = some (.dK (capK (done ++ [(n, c)]))) → H' ps = some (.dK (sorK (done ++ [(n, c)]))) → Q .non H')
abbrev sSig (j : Nat) : Stmt := inClass (topS 16) j
theorem scAddSort : FnScope ["self", "name", "capital"] ["self", "name", "capital"] (defScope (sSig 1)) := ⟨rfl, rfl, rfl, by decide +kernel, rfl, by decide +kernel, by decide +kernel⟩
theorem ok_add_sort {f fn : Addr} {fd fdn : FuncData} (F : Fun K "_add_sort" "Signature._add_sort" (sSig 1) f fd) (D : DefAt K mg 12 "is_name" ["text"] fn fdn) (N : Nm mg) (S : SigC K C) (E0 : Errs P K mg ec fi) :
    FnOk P w K mg base (L2N.CX P w) 2 f fd ["self", "name", "capital"] (spAddSort ec C) := by
  obtain ⟨tc, gC⟩ := N.CAPITALS
  have G : FnOk P w K mg base CX0 1 fn fdn ["text"] spIsName := ok_is_name D N
  refine okXN F scAddSort (fun vs H Q E h => ?_) (fun cdv A outer s H vs Q E hr h => ?_)
  · obtain ⟨a, pc, ps, done, n, c, rfl, _⟩ := h
    rfl
  · obtain ⟨a, pc, ps, done, n, c, rfl, hA, hne, hpc, hps, hd, hn, hc, kf, kn⟩ := h
    have hu := hu_of hr
    have tk := L2N.takes_of (X := cxOf (L2N.CX P w) P w K mg base ["self", "name", "capital"] "Signature._add_sort" (defScope (sSig 1)) f cdv A outer s H E) rfl rfl rfl rfl
    refine ⟨_, pss_cons (ps_if (pt_not (pt_val (pe_call G hr (by rfl) D.g D.F.kp D.b .nil pass0 (pa_cons (pv 1) pa_nil)))) (pss_one (L2N.ps_raise rfl tk (pmk_sup (x := "BadName") (E0.t .name) (by decide) hr (pa_cons (pv 1) pa_nil) (by rfl)))) pss_nil)
      (pss_cons (ps_if (pt_cmp (pc_din hu (pv 1) (pe_fld (pv 0) (by rfl)))) (pss_one (L2N.ps_raise rfl tk (pmk_sup (x := "Twice") (E0.t .twice) (by decide) hr (pa_cons (pv 1) pa_nil) (by rfl)))) pss_nil)
      (pss_cons (ps_if (PW.pt (pw_or (pt_cmpR op_ne (pe_callB call_lenT (by rfl) N.len PySem.boot_len (pa_cons (pv 2) pa_nil)) pe_int (nomark _)) (pw_or1 (pt_cmpR op_niS (pv 2) (pe_glob rfl gC relS) rfl)))) (pss_one (L2N.ps_raise rfl tk (pmk_sup (x := "BadCapital") (E0.t .cap) (by decide) hr (pa_cons (pv 2) pa_nil) (by rfl)))) pss_nil)
      (pss_cons (ps_if (pt_cmp (pc_din hu (pv 2) (pe_fld (pv 0) (by rfl)))) (pss_one (L2N.ps_raise rfl tk (pmk_sup (x := "Twice") (E0.t .twice) (by decide) hr (pa_cons (pv 2) pa_nil) (by rfl)))) pss_nil)
      (pss_cons (ps_dput hu (pe_fld (pv 0) (by rfl)) (pv 1) (pv 2) rfl) (pss_one (ps_dput hu (pe_fld (pv 0) (by rfl)) (pv 2) (pv 1) rfl)))))), ?_⟩
    cases b1 : nameB (tl n) with
    | false => exact q_when (b := true) (et_is (et_not (et_B (ev_call (z := .bl (nameB (tl n))) (ea_cons (ev_var rfl) ea_nil) (fun H8 e8 Q q E => ⟨n, rfl, hn, fun H9 e9 => q H9 e9⟩)))) (by rw [b1]; rfl)) (fun _ H1 e1 => s_raise (ev_var rfl) rfl ((kf .name n (by unfold sortFault; rw [if_pos b1])).mono e1)) (fun z => by cases z)
    | true =>
      refine q_when (b := false) (et_is (et_not (et_B (ev_call (z := .bl (nameB (tl n))) (ea_cons (ev_var rfl) ea_nil) (fun H8 e8 Q q E => ⟨n, rfl, hn, fun H9 e9 => q H9 e9⟩)))) (by rw [b1]; rfl)) (fun z => by cases z) (fun _ H1 e1 => ?_)
      have u1 : ¬ nameB (tl n) = false := by rw [b1]; decide
      cases b2 : decide (n ∈ done.map (·.1)) with
      | true => exact q_when (b := true) (et_is (et_test (ev_din (k := Sum.inr n) (ev_var rfl) (ev_fld S (ev_var rfl) (hA.ex e1) (f := "_capitals") (v := .ref pc) List.mem_cons_self (by decide)) (e1 _ _ hpc))) (by rw [dkv_some]; exact b2)) (fun _ H2 e2 => s_raise (ev_var rfl) rfl ((kf .twice n (by unfold sortFault; rw [if_neg u1, if_pos b2])).mono (e1.trans e2))) (fun z => by cases z)
      | false =>
        refine q_when (b := false) (et_is (et_test (ev_din (k := Sum.inr n) (ev_var rfl) (ev_fld S (ev_var rfl) (hA.ex e1) (f := "_capitals") (v := .ref pc) List.mem_cons_self (by decide)) (e1 _ _ hpc))) (by rw [dkv_some]; exact b2)) (fun z => by cases z) (fun _ H2 e2 => ?_)
        have e2 := e1.trans e2
        have u2 : ¬ decide (n ∈ done.map (·.1)) = true := by rw [b2]; decide
        by_cases b3 : c.length = 1
        · have ec1 : c = ⟨#[(tl c).headD 0]⟩ := by
            have hl : (tl c).length = 1 := by rw [← len_tl]; exact b3
            obtain ⟨⟨cs⟩⟩ := c
            have hl' : cs.length = 1 := hl
            match cs, hl' with
            | [x], _ => rfl
          generalize (tl c).headD 0 = x at ec1
          subst ec1
          cases b4 : decide (x ∈ capitals.cps.toList) with
          | false =>
            have b4' : capB (tl ⟨#[x]⟩) = false := by
              show (decide (1 = 1) && decide (x ∈ tl capitals)) = false
              rw [show decide (x ∈ tl capitals) = false from b4]
              rfl
            exact q_when (b := true) (et_or (a := false) (b := true) (et_is (et_test (ev_op (ev_lenT (ev_var rfl) (by omega)) ev_c (rv_ne rfl))) (by simp [b3])) fun _ => et_is (et_test (ev_op (ev_var rfl) ev_c rv_niS)) (by rw [b4]; rfl)) (fun _ H3 e3 => s_raise (ev_var rfl) rfl ((kf .cap _ (by unfold sortFault; rw [if_neg u1, if_neg u2, if_pos b4'])).mono (e2.trans e3))) (fun z => by cases z)
          | true =>
            have u4 : ¬ capB (tl ⟨#[x]⟩) = false := by
              show ¬ (decide (1 = 1) && decide (x ∈ tl capitals)) = false
              rw [show decide (x ∈ tl capitals) = true from b4]
              exact fun z => by cases z
            refine q_when (b := false) (et_or (a := false) (b := false) (et_is (et_test (ev_op (ev_lenT (ev_var rfl) (by omega)) ev_c (rv_ne rfl))) (by simp [b3])) fun _ => et_is (et_test (ev_op (ev_var rfl) ev_c rv_niS)) (by rw [b4]; rfl)) (fun z => by cases z) (fun _ H3 e3 => ?_)
            have e3 := e2.trans e3
            cases b5 : decide ((⟨#[x]⟩ : Str) ∈ done.map (·.2)) with
            | true => exact q_when (b := true) (et_is (et_test (ev_din (k := Sum.inr (⟨#[x]⟩ : Str)) (ev_var rfl) (ev_fld S (ev_var rfl) (hA.ex e3) (f := "_sorts") (v := .ref ps) (List.mem_cons_of_mem _ List.mem_cons_self) (by decide)) (e3 _ _ hps))) (by rw [dkv_some]; exact b5)) (fun _ H4 e4 => s_raise (ev_var rfl) rfl ((kf .twice _ (by unfold sortFault; rw [if_neg u1, if_neg u2, if_neg u4, if_pos b5])).mono (e3.trans e4))) (fun z => by cases z)
            | false =>
              refine q_when (b := false) (et_is (et_test (ev_din (k := Sum.inr (⟨#[x]⟩ : Str)) (ev_var rfl) (ev_fld S (ev_var rfl) (hA.ex e3) (f := "_sorts") (v := .ref ps) (List.mem_cons_of_mem _ List.mem_cons_self) (by decide)) (e3 _ _ hps))) (by rw [dkv_some]; exact b5)) (fun z => by cases z) (fun _ H4 e4 => ?_)
              have e4 := e3.trans e4
              have u5 : ¬ decide ((⟨#[x]⟩ : Str) ∈ done.map (·.2)) = true := by rw [b5]; decide
              have hnone : sortFault done n ⟨#[x]⟩ = none := by unfold sortFault; rw [if_neg u1, if_neg u2, if_neg u4, if_neg u5]
              refine q_dput (k := Sum.inr n) (v := .str ⟨#[x]⟩) (ev_var rfl) (ev_fld S (ev_var rfl) (hA.ex e4) (f := "_capitals") (v := .ref pc) List.mem_cons_self (by decide)) (ev_var rfl) (e4 _ _ hpc) (by rw [dkv_len]; omega) fun H5 e5 => ?_
              have e5 := e4.trans e5
              have put1 := dkv_put (k := fun r : Row => r.1) (v := fun r : Row => V.str r.2) (l := done) (r := (n, ⟨#[x]⟩)) b2
              have put2 := dkv_put (k := fun r : Row => r.2) (v := fun r : Row => V.str r.1) (l := done) (r := (n, ⟨#[x]⟩)) b5
              have hA5 := (hA.ex e5).upd (u := .dK (capK (done ++ [(n, ⟨#[x]⟩)]))) (e5 _ _ hpc) (fun _ _ _ z => nomatch z)
              have hps5 : (L2.upd H5 pc (.dK (capK (done ++ [(n, ⟨#[x]⟩)])))) ps = some (.dK (sorK done)) := by rw [upd_ne (Ne.symm hne)]; exact e5 _ _ hps
              rw [show putK (capK done) (Sum.inr n) (.str ⟨#[x]⟩) = capK (done ++ [(n, ⟨#[x]⟩)]) from put1]
              refine s_dput (k := Sum.inr (⟨#[x]⟩ : Str)) (v := .str n) (ev_var rfl) (ev_fld S (ev_var rfl) hA5 (f := "_sorts") (v := .ref ps) (List.mem_cons_of_mem _ List.mem_cons_self) (by decide)) (ev_var rfl) hps5 (by rw [dkv_len]; omega) fun H6 e6 => ?_
              refine kn hnone _ (fun b o hb ho => ?_) ?_ ?_
              · have nb1 : b ≠ pc := fun z => hb (by rw [z]; exact List.mem_cons_self)
                have nb2 : b ≠ ps := fun z => hb (by rw [z]; exact List.mem_cons_of_mem _ List.mem_cons_self)
                rw [upd_ne nb2]
                exact e6 _ _ (by rw [upd_ne nb1]; exact e5 _ _ ho)
              · rw [upd_ne hne]
                exact e6 _ _ upd_same
              · rw [upd_same]
                exact congrArg (fun z => some (HO.dK z)) put2
        · have b3' : capB (tl c) = false := by
            unfold capB
            rw [← len_tl, decide_eq_false b3]
            rfl
          exact q_when (b := true) (et_or (a := true) (b := true) (et_is (et_test (ev_op (ev_lenT (ev_var rfl) (by omega)) ev_c (rv_ne rfl))) (by simp; omega)) fun z => by cases z) (fun _ H3 e3 => s_raise (ev_var rfl) rfl ((kf .cap c (by unfold sortFault; rw [if_neg u1, if_neg u2, if_pos b3'])).mono (e2.trans e3))) (fun z => by cases z)
end
end K01
-- KDraw2
namespace KD
open PySem PySem.Spec PyProof.Rows L2 Evl KEv
section
variable {K : PySem.W.Frag} {σ : L2.St} {B H : Hp} {d : Addr} {ta tb te td tc : TE} {x : V} {R Rb : V → Hp → Prop} {r : R2} {E : XK}
/-- the left one pure -/
theorem eg_opV (ha : Ev ta σ B x) (hb : EvG tb σ B d Rb) (hr : ∀ y B2, Ex B B2 → Rb y B2 → ∃ z, RV r x y B2 z ∧ R z B2) : EvG (tOp r ta tb) σ B d R :=
  eg_op (Rb := fun _ => Rb) (eg_lift ha) (fun u B1 _ hu => by rw [hu.2]; exact hb) fun u y B1 B2 _ hu e2 hy => by
    rw [hu.1]
    rw [hu.2] at e2
    exact hr y B2 e2 hy
/-- the right one pure -/
theorem eg_opW {y : V} (ha : EvG ta σ B d Rb) (hb : ∀ u B1, Ex B B1 → Rb u B1 → Ev tb σ B1 y) (hr : ∀ u B1, Ex B B1 → Rb u B1 → ∃ z, RV r u y B1 z ∧ R z B1) : EvG (tOp r ta tb) σ B d R := fun H s Q q =>
  ha H s _ fun u B1 H1 e1 s1 r1 => hb u B1 e1 r1 H1 s1.ex _ fun H2 e2 => by
    obtain ⟨z, hz, rz⟩ := hr u B1 e1 r1
    exact hz H2 (s1.ex.trans e2) Q fun H3 e3 => q z B1 H3 e1 ((s1.mono e2).mono e3) rz
/-- a drawn number -/
theorem eg_takeN {m : Int} (hd : Ev td σ B (.ref d)) (hm : Ev te σ B (.int m)) (h0 : 0 < m) : EvG (tCall spTake [] E (tCons td (tCons te tNil))) σ B d fun v _ => ∃ n : Nat, v = .int (n : Int) ∧ (n : Int) < m :=
  (eg_take hd hm h0).imp fun v B' _ h => by
    obtain ⟨⟨r, rfl, r0, r1⟩, _⟩ := h
    exact ⟨r.toNat, by rw [Int.toNat_of_nonneg r0], by omega⟩
/-- a drawn sign of a text -/
theorem eg_signN {w : Str} {n : Int} (hw : Ev ta σ B (.str w)) (hi : EvG tb σ B d fun v _ => ∃ k : Nat, v = .int (k : Int) ∧ (k : Int) < n) (hn : n ≤ (w.length : Int)) (hl : w.length ≤ 100000) : EvG (tOp rIxS ta tb) σ B d fun v _ => ∃ c, v = .str ⟨#[c]⟩ ∧ c ∈ TL.tl w :=
  eg_opV hw hi fun y B2 _ hy => by
    obtain ⟨k, rfl, hk⟩ := hy
    have hr : k < w.cps.toList.length := by
      have : w.length = w.cps.toList.length := by simp [Str.length]
      omega
    obtain ⟨c, hc⟩ : ∃ c, w.cps.toList[k]? = some c := ⟨_, List.getElem?_eq_getElem hr⟩
    exact ⟨_, rv_ixS hl (atI_nat hc), c, rfl, List.mem_of_getElem? hc⟩
/-- a drawn item of a list or a tuple that stands -/
theorem eg_itemL {a : Addr} {xs : List V} {n : Int} (hw : Ev ta σ B (.ref a)) (hx : SqL K B a xs) (hi : EvG tb σ B d fun v _ => ∃ k : Nat, v = .int (k : Int) ∧ (k : Int) < n) (hn : n ≤ (xs.length : Int)) : EvG (tOp (rIxL K) ta tb) σ B d fun v _ => v ∈ xs :=
  eg_opV hw hi fun y B2 e hy => by
    obtain ⟨k, rfl, hk⟩ := hy
    have hr : k < xs.length := by omega
    have hc : xs[k]? = some xs[k] := List.getElem?_eq_getElem hr
    exact ⟨_, rv_ixL (ex_l e hx) (atI_nat hc), List.mem_of_getElem? hc⟩
/-- a pure expression's value, nothing drawn -/
theorem eg_ev {v : V} (h : Ev te σ B v) : EvG te σ B d fun u _ => u = v := (eg_lift h).imp fun _ _ _ h => h.1
theorem EvG.sd {R' : V → Hp → Prop} (h : EvG te σ B d R) (hi : ∀ v B', R v B' → R' v B') : EvG te σ B d R' := h.imp fun v B' _ => hi v B'
end
end KD
-- KDraw3
/-! lists that are drawn -/
namespace KD
open PySem PySem.Spec PyProof.Rows L2 Evl KEv KSq
section
variable {K : PySem.W.Frag} {σ : L2.St} {B H : Hp} {d : Addr} {ta tr : TA} {tb te td tc : TE} {x v : V} {R Rb : V → Hp → Prop} {r : R2} {E : XK} {j : Nat} {vs : List Nat}
theorem ega_consV {Rr : List V → Hp → Prop} (h : Ev te σ B v) (hr : EvGA tr σ B d Rr) : EvGA (tCons te tr) σ B d fun us B' => ∃ r, us = v :: r ∧ Rr r B' :=
  ega_cons (Rr := fun _ => Rr) (eg_lift h) (fun u B1 _ hu => by rw [hu.2]; exact hr) fun u us B1 B2 _ hu _ hr => ⟨us, by rw [hu.1], hr⟩
theorem ega_one (h : EvG te σ B d R) : EvGA (tCons te tNil) σ B d fun us B' => ∃ v, us = [v] ∧ R v B' :=
  ega_cons (Rr := fun v us B' => us = [] ∧ R v B') h (fun u B1 e1 hu => fun H s Q q => q [] B1 H (Ex.refl _) s ⟨rfl, hu⟩) fun u us B1 B2 _ hu _ hr => ⟨u, by rw [hr.1], hr.2⟩
theorem ega_sd {Rs Rs' : List V → Hp → Prop} (h : EvGA ta σ B d Rs) (hi : ∀ us B', Ex B B' → Rs us B' → Rs' us B') : EvGA ta σ B d Rs' := fun H s Q q => h H s Q fun us B' H' e s' r => q us B' H' e s' (hi us B' e r)
/-- [a, b, ..] -/
theorem eg_lst {Rs : List V → Hp → Prop} (h : EvGA ta σ B d Rs) (hl : ∀ us B', Rs us B' → us.length ≤ 100000) : EvG (tLst ta) σ B d fun u B' => ∃ p us B1, u = .ref p ∧ B p = none ∧ B1 p = none ∧ Ex B B1 ∧ B' = upd B1 p (.lst us) ∧ Rs us B1 := fun H s Q q =>
  h H s _ fun us B1 H1 e1 s1 r1 => ⟨sz_of (hl us B1 r1), fun p hp => by
    have nb : B1 p = none := fresh_back s1.ex hp
    have nd : p ≠ d := s1.ne hp
    have s2 : Sd (upd B1 p (.lst us)) d (upd H1 p (.lst us)) := (s1.mono (Ex.new hp)).known nd upd_same
    exact q (.ref p) (upd B1 p (.lst us)) _ (e1.trans (Ex.new nb)) s2 ⟨p, us, B1, rfl, fresh_back e1 nb, nb, e1, rfl, r1⟩⟩
/-- f(draws, e) -/
theorem eg_call1 {A : List V → Hp → Prop} {Rc : List V → V → Hp → Prop} {R1 : V → Hp → Prop} (hd : Ev td σ B (.ref d)) (h : EvG te σ B d R1) (ha : ∀ v B1 H1, Ex B B1 → R1 v B1 → Ex B1 H1 → A [v] H1) (hr : ∀ v u B1 B2, Ex B B1 → R1 v B1 → Ex B1 B2 → Rc [v] u B2 → R u B2) :
    EvG (tCall (spGen A Rc) [] E (tCons td (tCons te tNil))) σ B d R :=
  eg_call (Rs := fun us B' => ∃ v, us = [.ref d, v] ∧ R1 v B') (ega_sd (ega_consV hd (ega_one h)) fun us B' _ h => by
      obtain ⟨r, rfl, v, rfl, h⟩ := h
      exact ⟨v, rfl, h⟩) (fun us B1 H1 e1 h e2 => by
      obtain ⟨v, rfl, h⟩ := h
      exact ⟨[v], rfl, ha v B1 H1 e1 h e2⟩) fun rest B1 B2 u e1 h e2 hc => by
      obtain ⟨v, ev, h⟩ := h
      obtain rfl : rest = [v] := (List.cons.inj ev).2
      exact hr v u B1 B2 e1 h e2 hc
/-- f(draws) -/
theorem eg_call0 {A : List V → Hp → Prop} {Rc : List V → V → Hp → Prop} (hd : Ev td σ B (.ref d)) (ha : ∀ H1, Ex B H1 → A [] H1) (hr : ∀ u B2, Ex B B2 → Rc [] u B2 → R u B2) :
    EvG (tCall (spGen A Rc) [] E (tCons td tNil)) σ B d R :=
  eg_call (Rs := fun us B' => us = [.ref d] ∧ B' = B) (ega_lift (ea_cons hd ea_nil)) (fun us B1 H1 _ h e2 => ⟨[], h.1, ha H1 (by rw [← h.2]; exact e2)⟩) fun rest B1 B2 u _ h e2 hc => by
      obtain rfl : rest = [] := (List.cons.inj h.1).2
      exact hr u B2 (by rw [← h.2]; exact e2) hc
/-- [e for k in range(n)], each e drawn -/
theorem eg_lcR {n0 : Nat} {Kp : Addr → V → Hp → Prop} (h : EvGA ta σ B d fun us _ => ∃ n : Nat, us = [.int (n : Int)] ∧ n ≤ n0) (hn0 : n0 ≤ 40000) (hw : ∀ x, wipe ((wipe σ vs).set j (some x)) vs = wipe σ vs)
    (hk : ∀ L v B2 B3, Kp L v B2 → Ex B2 B3 → Kp L v B3) (hu : ∀ L v B2 o, Kp L v B2 → Kp L v (upd B2 L o))
    (he : ∀ (i : Nat) (L : Addr) B1, Ex B B1 → (∃ o, B1 L = some o) → EvG te ((wipe σ vs).set j (some (.int (i : Int)))) B1 d fun v B2 => Kp L v B2) :
    EvG (tLc (iRng1 ta) (gName j) tYes te vs) σ B d fun u B' => ∃ p xs, u = .ref p ∧ B p = none ∧ B' p = some (.lst xs) ∧ xs.length ≤ n0 ∧ ∀ x ∈ xs, Kp p x B' := fun H s Q q =>
  h H s _ fun us B1 H1 e1 s1 r1 => by
    obtain ⟨n, rfl, hn⟩ := r1
    refine ⟨(n : Int), rfl, by omega, by omega, fun L hL => ?_⟩
    have nb : B1 L = none := fresh_back s1.ex hL
    refine lc_range (lo := 0) (n := ((n : Int) - 0).toNat) (fun i H' => ∃ B2 acc, Ex B1 B2 ∧ Sd B2 d H' ∧ B2 L = some (.lst acc) ∧ acc.length = i ∧ ∀ x ∈ acc, Kp L x B2) ⟨upd B1 L (.lst []), [], Ex.new nb, (s1.mono (Ex.new hL)).known (s1.ne hL) upd_same, upd_same, rfl, fun x hx => absurd hx (by simp)⟩ (fun i H2 hi p => ?_) (fun H2 p => ?_)
    · obtain ⟨B2, acc, e2, s2, h2, hl, hx⟩ := p
      have e0 : (0 : Int) + (i : Int) = (i : Int) := Int.zero_add _
      rw [e0]
      refine ⟨hw _, ?_⟩
      show (fun b H3 => _) true H2
      simp only [if_true]
      refine he i L B2 (e1.trans e2) ⟨_, h2⟩ H2 s2 _ fun v B3 H3 e3 s3 r3 => ?_
      have h3 : B3 L = some (.lst acc) := e3 _ _ h2
      refine ⟨acc, s3.ex _ _ h3, sz_lt (by omega), upd B3 L (.lst (acc ++ [v])), acc ++ [v], (e2.trans e3).mut nb, s3.change h3, upd_same, by rw [List.length_append, hl]; rfl, fun x hx2 => ?_⟩
      rcases List.mem_append.mp hx2 with z | z
      · exact hu L x B3 _ (hk L x B2 B3 (hx x z) e3)
      · rw [List.mem_singleton.mp z]
        exact hu L v B3 _ r3
    · obtain ⟨B2, acc, e2, s2, h2, hl, hx⟩ := p
      exact q (.ref L) B2 H2 (e1.trans e2) s2 ⟨L, acc, rfl, fresh_back e1 nb, h2, by omega, hx⟩
end
end KD
-- KRep
/-! a text, so many times; more of what is drawn -/
namespace KEv
open PySem PySem.Spec PyProof.Rows L2 Evl
def rRepS : R2 := fun x y H Q => ∃ (a : Str) (n : Nat), x = .str a ∧ y = .int (n : Int) ∧ 1 ≤ n ∧ n ≤ 1000 ∧ a.length ≤ 1000 ∧ Q (.str (repS a n)) H
theorem repS_one (a : Str) : repS a 1 = a := by
  unfold repS
  simp
theorem fold_rep (c : Array Nat) : ∀ (n : Nat) (acc : Array Nat), (List.replicate n c).foldl (· ++ ·) acc = (acc.toList ++ (List.replicate n c.toList).flatten).toArray
  | 0, acc => by simp
  | n + 1, acc => by
    rw [List.replicate_succ, List.foldl_cons, fold_rep c n (acc ++ c), List.replicate_succ, List.flatten_cons]
    simp
theorem op_repS {X : Cx} : OpR X (binaryOp .Mult) rRepS := by
  intro pins s σ H x y v u Q I rx ry h
  obtain ⟨a, n, rfl, rfl, h1, h2, h3, q⟩ := h
  obtain ⟨t, rfl⟩ := rx
  obtain ⟨t2, rfl⟩ := ry
  have hm : a.length * n ≤ 1000 * 1000 := Nat.mul_le_mul h3 h2
  refine PySem.P.mul_str ?_ (fun _ _ => ?_) (fun _ _ => ?_) ?_
  · have z1 : decide ((n : Int) < -(2 ^ 63 : Int)) = false := decide_eq_false (by omega)
    have z2 : decide ((n : Int) ≥ 2 ^ 63) = false := decide_eq_false (by omega)
    rw [z1, z2]
    rfl
  · have : (a.length : Int) ≤ (2 ^ 63 - 1) / (n : Int) := by
      apply Int.le_ediv_of_mul_le (by omega)
      have : (a.length : Int) * (n : Int) = ((a.length * n : Nat) : Int) := by simp
      rw [this]
      omega
    omega
  · exact PyProof.Rows.short24 (by rw [Int.toNat_natCast]; omega)
  · rw [if_neg (by omega)]
    split
    · rename_i hz
      have e : repS a n = a := by
        rcases Bool.or_eq_true_iff.mp hz with z | z
        · have : n = 1 := by have := beq_iff_eq.mp z; omega
          rw [this, repS_one]
        · have z2 : a.length = 0 := beq_iff_eq.mp z
          have z3 : a.cps.toList = [] := List.length_eq_zero_iff.mp (by rw [Array.length_toList]; exact z2)
          unfold repS
          rw [z3]
          cases a with
          | mk c =>
            have : c = #[] := by
              have z4 : c.toList = [] := z3
              exact Array.toList_eq_nil_iff.mp z4
            subst this
            simp
      rw [e] at q
      exact ⟨.str a, H, I, ⟨t, rfl⟩, q⟩
    · have e : (⟨(List.replicate (n : Int).toNat a.cps).foldl (· ++ ·) #[]⟩ : Str) = repS a n := by
        rw [Int.toNat_natCast]
        unfold repS
        have z := fold_rep a.cps n #[]
        rw [z]
        simp
      rw [e]
      have hl : (repS a n).length = a.length * n := by
        rw [TL.len_tl]
        show (TL.tl (repS a n)).length = _
        unfold repS TL.tl
        simp [Str.length, Nat.mul_comm]
      exact ⟨Nat.le_trans (by rw [hl]; exact hm) (by decide), .str (repS a n), H, I.tok _, ⟨_, rfl⟩, q⟩
end KEv
namespace KD
open PySem PySem.Spec PyProof.Rows L2 Evl KEv KSq
theorem rv_repS {a : Str} {n : Nat} {H : Hp} (h1 : 1 ≤ n) (h2 : n ≤ 1000) (h3 : a.length ≤ 1000) : RV rRepS (.str a) (.int (n : Int)) H (.str (repS a n)) := fun H1 _ _ q => ⟨a, n, rfl, rfl, h1, h2, h3, q H1 (Ex.refl H1)⟩
/-- truth of a value -/
def tTru (K : PySem.W.Frag) (ta : TE) : TT := fun σ H Q => ta σ H fun x H' => ∃ k, TruV K x H' k ∧ Q k H'
theorem pt_tru {X : Cx} {a : Expr} {ta : TE} (ha : PE X a ta) (he : ∀ whole, isTrue a X.env whole = (do let v ← whole; standAt a.pos; holding [v] (truthy v)) := by intro _; rfl) : PT X a (tTru X.K ta) := pt_truth ha he
section
variable {K : PySem.W.Frag} {σ : L2.St} {B H : Hp} {d : Addr} {ta tr : TA} {tb te td tc ti : TE} {tl th : TO} {x v : V} {R R' Rb : V → Hp → Prop} {r : R2} {E : XK} {j : Nat} {vs : List Nat} {D : Ends} {tz tu : TS}
theorem et_truL {a : Addr} {xs : List V} (h : Ev te σ H (.ref a)) (hx : SqL K H a xs) : EvT (tTru K te) σ H (!xs.isEmpty) := fun H1 e Q q => h H1 e _ fun H2 e2 => ⟨!xs.isEmpty, .inl ⟨xs, ex_l (e.trans e2) hx, rfl⟩, q H2 e2⟩
/-- a slice of a drawn text, the bounds pure -/
theorem eg_slS {lo hi : Option Int} (h : EvG te σ B d R) (h1 : ∀ B1, EvO tl σ B1 lo) (h2 : ∀ B1, EvO th σ B1 hi) (hr : ∀ v B1, R v B1 → ∃ x : Str, v = .str x ∧ x.length ≤ 1000000 ∧ R' (.str (cutS x lo hi)) B1) : EvG (tSl rSlS te tl th) σ B d R' := fun H s Q q =>
  h H s _ fun v B1 H1 e1 s1 r1 => h1 B1 H1 s1.ex _ fun H2 e2 => h2 B1 H2 (s1.ex.trans e2) _ fun H3 e3 => by
    obtain ⟨x, rfl, hx, r2⟩ := hr v B1 r1
    exact ⟨x, rfl, Nat.le_trans hx (by decide), q _ B1 H3 e1 ((s1.mono e2).mono e3) r2⟩
/-- a drawn item of a list that is made on the way -/
theorem eg_itemN {n : Int} {Pv : V → Prop} (h : EvG te σ B d fun u B' => ∃ p us, u = .ref p ∧ B' p = some (.lst us) ∧ n ≤ (us.length : Int) ∧ ∀ v ∈ us, Pv v) (hi : ∀ B1, EvG ti σ B1 d fun v _ => ∃ k : Nat, v = .int (k : Int) ∧ (k : Int) < n) : EvG (tOp (rIxL K) te ti) σ B d fun v _ => Pv v :=
  eg_op (Rb := fun _ v _ => ∃ k : Nat, v = .int (k : Int) ∧ (k : Int) < n) h (fun u B1 _ _ => hi B1) fun u y B1 B2 _ hu e2 hy => by
    obtain ⟨p, us, rfl, hp, hn, hv⟩ := hu
    obtain ⟨k, rfl, hk⟩ := hy
    have hr : k < us.length := by omega
    have hc : us[k]? = some us[k] := List.getElem?_eq_getElem hr
    exact ⟨_, rv_ixL (sq_of (e2 _ _ hp)) (atI_nat hc), hv _ (List.mem_of_getElem? hc)⟩
/-- xs.append(e), e drawn -/
theorem g_app {l : Addr} {xs : List V} (hl : B l = some (.lst xs)) (ha : ∀ B1, Ev tb σ B1 (.ref l)) (h : EvG te σ B d R) (hz : xs.length < 100000) (s : Sd B d H) (k : ∀ v B1 H1, Ex B B1 → R v B1 → Sd (upd B1 l (.lst (xs ++ [v]))) d H1 → D.nx σ H1) : tDrop (tBM K "list" rAppend tb (tCons te tNil)) D σ H :=
  ha B H s.ex _ fun H1 e1 => ⟨Or.inl ⟨rfl, xs, sq_of (e1 _ _ (s.ex _ _ hl))⟩, h H1 (s.mono e1) _ fun v B2 H2 e2 s2 r2 => ⟨l, xs, v, rfl, rfl, s2.ex _ _ (e2 _ _ hl), sz_lt hz, k v B2 _ e2 r2 (s2.change (e2 _ _ hl))⟩⟩
theorem gq_app {l : Addr} {xs : List V} (hl : B l = some (.lst xs)) (ha : ∀ B1, Ev tb σ B1 (.ref l)) (h : EvG te σ B d R) (hz : xs.length < 100000) (s : Sd B d H) (k : ∀ v B1 H1, Ex B B1 → R v B1 → Sd (upd B1 l (.lst (xs ++ [v]))) d H1 → tz D σ H1) : tSeq (tDrop (tBM K "list" rAppend tb (tCons te tNil))) tz D σ H :=
  g_app (D := { D with nx := tz D }) hl ha h hz s k
/-- for k in range(n), n drawn: the turns draw -/
theorem gq_range {tn : TE} {m : Nat} (h : EvG tn σ B d fun v _ => ∃ n : Nat, v = .int (n : Int) ∧ n ≤ m) (s : Sd B d H) (hm : m ≤ 100000) (Pv : Nat → L2.St → Hp → Prop) (h0 : ∀ B1 H1, Ex B B1 → Sd B1 d H1 → Pv 0 σ H1)
    (hs : ∀ (i : Nat) σ' H', i < m → Pv i σ' H' → tu { D with nx := Pv (i + 1), ct := Pv (i + 1), bk := tz D } (σ'.set j (some (.int (i : Int)))) H') (hd : ∀ n σ' H', n ≤ m → Pv n σ' H' → tz D σ' H') : tSeq (tFor (iRng1 (tCons tn tNil)) (gName j) tu) tz D σ H :=
  h H s _ fun v B1 H1 e1 s1 r1 => by
    obtain ⟨n, rfl, hn⟩ := r1
    exact ⟨(n : Int), rfl, by omega, by omega, for_range (lo := 0) (n := (n : Int).toNat) (D := { D with nx := tz D }) (g := gName j) (tb := tu) Pv (h0 B1 H1 e1 s1) (fun i σ' H' hi p => by
      have e0 : (0 : Int) + (i : Int) = (i : Int) := Int.zero_add _
      show tu _ (σ'.set j (some (.int ((0 : Int) + (i : Int))))) H'
      rw [e0]
      exact hs i σ' H' (by omega) p) fun σ' H' p => hd _ σ' H' (by omega) p⟩
end
end KD
-- KNew
/-! what is made anew, told by a relation: G is what is known behind it; what H1 held beyond H stays out of G -/
namespace KNew
open PySem PySem.Spec PyProof.Rows L2 Evl KEv KSq KD
/-- G beside H1: known beyond H only what is new -/
structure Nw (H H1 G H2 : Hp) : Prop where
  up : Ex H G
  st : Ex G H2
  kp : Ex H1 H2
  fr : ∀ b, H b = none → H1 b ≠ none → G b = none
theorem Nw.refl {H H1 : Hp} (e : Ex H H1) : Nw H H1 H H1 := ⟨Ex.refl H, e, Ex.refl H1, fun b h _ => h⟩
theorem Nw.trans {H H1 G H2 G' H3 : Hp} (a : Nw H H1 G H2) (b : Nw G H2 G' H3) : Nw H H1 G' H3 := ⟨a.up.trans b.up, b.st, a.kp.trans b.kp, fun x h h1 => b.fr x (a.fr x h h1) (by
  cases e : H1 x with
  | none => exact absurd e h1
  | some o => rw [a.kp _ _ e]; exact fun z => nomatch z)⟩
/-- nothing known, memory moves on -/
theorem Nw.go {H H1 G H2 H3 : Hp} (a : Nw H H1 G H2) (e : Ex H2 H3) : Nw H H1 G H3 := ⟨a.up, a.st.trans e, a.kp.trans e, a.fr⟩
/-- one new object, known -/
theorem Nw.add {H H1 G H2 H3 : Hp} {p : Addr} {o : HO} (a : Nw H H1 G H2) (hp : H2 p = none) (e : Ex H2 H3) (h : H3 p = some o) : Nw H H1 (upd G p o) H3 :=
  have gp : G p = none := fresh_back a.st hp
  ⟨a.up.trans (Ex.new gp), fun b u q => by
    by_cases z : b = p
    · rw [z, upd_same] at q
      rw [z, h, q]
    · rw [upd_ne z] at q
      exact e _ _ (a.st _ _ q), a.kp.trans e, fun b q r => by
    have z : b ≠ p := fun z => r (by rw [z]; exact fresh_back a.kp hp)
    rw [upd_ne z]
    exact a.fr b q r⟩
theorem Nw.pre {H H0 H1 G H2 : Hp} (e : Ex H0 H1) (a : Nw H H1 G H2) : Nw H H0 G H2 := ⟨a.up, a.st, e.trans a.kp, fun b q r => a.fr b q (by
  cases z : H0 b with
  | none => exact absurd z r
  | some o => rw [e _ _ z]; exact fun z => nomatch z)⟩
theorem Nw.new {H H1 G H2 : Hp} {p : Addr} (a : Nw H H1 G H2) (h : H p = none) (hg : G p ≠ none) : H1 p = none := by
  cases z : H1 p with
  | none => rfl
  | some o => exact absurd (a.fr p h (by rw [z]; exact fun z => nomatch z)) hg
def EvN (te : TE) (σ : L2.St) (H : Hp) (R : V → Hp → Prop) : Prop := ∀ H1, Ex H H1 → ∀ Q : VK, (∀ v G H2, Nw H H1 G H2 → R v G → Q v H2) → te σ H1 Q
def EvNA (ta : TA) (σ : L2.St) (H : Hp) (R : List V → Hp → Prop) : Prop := ∀ H1, Ex H H1 → ∀ Q : List V → Hp → Prop, (∀ vs G H2, Nw H H1 G H2 → R vs G → Q vs H2) → ta σ H1 Q
/-- what a relation on new lists is -/
def IsL (R : List V → Hp → Prop) : V → Hp → Prop := fun v G => ∃ p ys, v = .ref p ∧ G p = some (.lst ys) ∧ R ys G
def IsT (R : List V → Hp → Prop) : V → Hp → Prop := fun v G => ∃ p ys, v = .ref p ∧ G p = some (.tup ys) ∧ R ys G
/-- a new list that H did not know -/
def FrL (H : Hp) (R : List V → Hp → Prop) : V → Hp → Prop := fun v G => ∃ p ys, v = .ref p ∧ H p = none ∧ G p = some (.lst ys) ∧ R ys G
def MonoR (R : List V → Hp → Prop) : Prop := ∀ ys G G', R ys G → Ex G G' → R ys G'
section
variable {K : PySem.W.Frag} {σ : L2.St} {B H H' : Hp} {d a : Addr} {ta tr : TA} {te tl : TE} {v : V} {xs : List V} {R R' : V → Hp → Prop} {Rs : List V → Hp → Prop} {g : TG} {vs : List Nat}
theorem EvN.mono (e : Ex H H') (h : EvN te σ H' R) (hn : ∀ b, H b = none → H' b = none) : EvN te σ H R := fun H1 e1 Q q => by
  have : H = H' := funext fun b => by
    cases z : H b with
    | none => rw [hn b z]
    | some o => rw [e _ _ z]
  rw [this] at e1 q
  exact h H1 e1 Q q
theorem EvN.imp (h : EvN te σ H R) (hi : ∀ v G, Ex H G → R v G → R' v G) : EvN te σ H R' := fun H1 e Q q => h H1 e Q fun v G H2 n r => q v G H2 n (hi v G n.up r)
theorem EvNA.imp {Rs' : List V → Hp → Prop} (h : EvNA ta σ H Rs) (hi : ∀ v G, Ex H G → Rs v G → Rs' v G) : EvNA ta σ H Rs' := fun H1 e Q q => h H1 e Q fun v G H2 n r => q v G H2 n (hi v G n.up r)
theorem en_ev (h : Ev te σ H v) : EvN te σ H fun u _ => u = v := fun H1 e Q q => h H1 e Q fun H2 e2 => q v H H2 ((Nw.refl e).go e2) rfl
theorem en_el (h : EvL te σ H xs) : EvN te σ H (IsL fun ys _ => ys = xs) := fun H1 e Q q => h H1 e Q fun p H2 hp e2 h2 => q (.ref p) (upd H p (.lst xs)) H2 ((Nw.refl e).add hp e2 h2) ⟨p, xs, rfl, upd_same, rfl⟩
theorem en_eu (h : EvU te σ H xs) : EvN te σ H (IsT fun ys _ => ys = xs) := fun H1 e Q q => h H1 e Q fun p H2 hp e2 h2 => q (.ref p) (upd H p (.tup xs)) H2 ((Nw.refl e).add hp e2 h2) ⟨p, xs, rfl, upd_same, rfl⟩
theorem ena_nil : EvNA tNil σ H fun vs _ => vs = [] := fun H1 e Q q => q [] H H1 (Nw.refl e) rfl
theorem ena_cons {Rr : V → List V → Hp → Prop} {Rw : List V → Hp → Prop} (h : EvN te σ H R) (hr : ∀ v G, Ex H G → R v G → EvNA tr σ G (Rr v)) (hw : ∀ v vs G G', R v G → Ex G G' → Rr v vs G' → Rw (v :: vs) G') : EvNA (tCons te tr) σ H Rw := fun H1 e Q q =>
  h H1 e _ fun v G H2 n r => hr v G n.up r H2 n.st _ fun vs G' H3 n' r' => q (v :: vs) G' H3 (n.trans n') (hw v vs G G' r n'.up r')
theorem ena_ev {vs : List V} (h : EvA ta σ H vs) : EvNA ta σ H fun us _ => us = vs := fun H1 e Q q => h H1 e Q fun H2 e2 => q vs H H2 ((Nw.refl e).go e2) rfl
theorem ena_consV (h : Ev te σ H v) (hr : EvNA tr σ H Rs) : EvNA (tCons te tr) σ H fun us G => ∃ r, us = v :: r ∧ Rs r G := fun H1 e Q q =>
  h H1 e _ fun H2 e2 => hr H2 (e.trans e2) _ fun vs G H3 n r => q (v :: vs) G H3 (n.pre e2) ⟨vs, rfl, r⟩
theorem ena_consN (hR : ∀ v G G', R v G → Ex G G' → R v G') (h : EvN te σ H R) (hr : ∀ G, Ex H G → EvNA tr σ G Rs) : EvNA (tCons te tr) σ H fun us G => ∃ v r, us = v :: r ∧ R v G ∧ Rs r G :=
  ena_cons (Rr := fun _ => Rs) h (fun v G e _ => hr G e) fun v vs G G' r e r' => ⟨v, vs, rfl, hR v G G' r e, r'⟩
theorem en_tup (hm : MonoR Rs) (h : EvNA ta σ H Rs) (hl : ∀ us G, Rs us G → us.length ≤ 100000) : EvN (tTup ta) σ H (IsT Rs) := fun H1 e Q q =>
  h H1 e _ fun us G H2 n r => ⟨sz_of (hl us G r), fun p hp => q (.ref p) (upd G p (.tup us)) _ (n.add hp (Ex.new hp) upd_same) ⟨p, us, rfl, upd_same, hm us G _ r (Ex.new (fresh_back n.st hp))⟩⟩
theorem en_lst (hm : MonoR Rs) (h : EvNA ta σ H Rs) (hl : ∀ us G, Rs us G → us.length ≤ 100000) : EvN (tLst ta) σ H (IsL Rs) := fun H1 e Q q =>
  h H1 e _ fun us G H2 n r => ⟨sz_of (hl us G r), fun p hp => q (.ref p) (upd G p (.lst us)) _ (n.add hp (Ex.new hp) upd_same) ⟨p, us, rfl, upd_same, hm us G _ r (Ex.new (fresh_back n.st hp))⟩⟩
theorem en_elF (h : EvL te σ H xs) : EvN te σ H (FrL H fun ys _ => ys = xs) := fun H1 e Q q => h H1 e Q fun p H2 hp e2 h2 => q (.ref p) (upd H p (.lst xs)) H2 ((Nw.refl e).add hp e2 h2) ⟨p, xs, rfl, fresh_back e hp, upd_same, rfl⟩
theorem en_lstF (hm : MonoR Rs) (h : EvNA ta σ H Rs) (hl : ∀ us G, Rs us G → us.length ≤ 100000) : EvN (tLst ta) σ H (FrL H Rs) := fun H1 e Q q =>
  h H1 e _ fun us G H2 n r => ⟨sz_of (hl us G r), fun p hp => q (.ref p) (upd G p (.lst us)) _ (n.add hp (Ex.new hp) upd_same) ⟨p, us, rfl, fresh_back (n.up.trans n.st) hp, upd_same, hm us G _ r (Ex.new (fresh_back n.st hp))⟩⟩
/-- tuple(xs) of a new list -/
def rTupSq (K : PySem.W.Frag) : List V → Hp → VK → Prop := fun xs H Q => ∃ p ys, xs = [.ref p] ∧ ((SqL K H p ys ∧ ∀ l, H l = none → Q (.ref l) (upd H l (.tup ys))) ∨ (SqT K H p ys ∧ Q (.ref p) H))
theorem call_tupK {X : Cx} {K : PySem.W.Frag} (h : X.K = K) : CallR X (.type "tuple") (rTupSq K) := by
  subst h
  exact call_tuple_of
theorem en_tupL (hm : MonoR Rs) (h : EvN te σ H (IsL Rs)) : EvN (tCB (rTupSq K) (tCons te tNil)) σ H (IsT Rs) := fun H1 e Q q =>
  h H1 e _ fun v G H2 n r => by
    obtain ⟨p, ys, rfl, hp, r⟩ := r
    exact ⟨p, ys, rfl, .inl ⟨sq_of (n.st _ _ hp), fun l hl => q (.ref l) (upd G l (.tup ys)) _ (n.add hl (Ex.new hl) upd_same) ⟨l, ys, rfl, upd_same, hm ys G _ r (Ex.new (fresh_back n.st hl))⟩⟩⟩
/-- a comprehension over a list, every turn gives -/
theorem en_lcLF (Rl : Nat → V → Hp → Prop) (hm : ∀ i y G G', Rl i y G → Ex G G' → Rl i y G') (h : Ev tl σ H (.ref a)) (hx : SqL K H a xs) (hz : xs.length ≤ 40000)
    (hs : ∀ i x G H1, Ex H G → Ex G H1 → xs[i]? = some x → ∀ Q : VK, (∀ y G' H2, Nw G H1 G' H2 → Rl i y G' → Q y H2) → g x (wipe σ vs) H1 fun σ2 H2 => wipe σ2 vs = wipe σ vs ∧ te σ2 H2 Q) :
    EvN (tLc (iList K tl) g tYes te vs) σ H (FrL H fun ys G => ys.length = xs.length ∧ ∀ i y, ys[i]? = some y → Rl i y G) := fun H0 e0 Q q => h H0 e0 _ fun H1 e1 => ⟨a, rfl, ⟨xs, ex_l (e0.trans e1) hx⟩, fun D hD =>
  lc_list (xs := xs) (fun i H' => ∃ G acc, Nw H H1 G H' ∧ G D = none ∧ H' D = some (.lst acc) ∧ acc.length = i ∧ ∀ j y, acc[j]? = some y → Rl j y G)
    ⟨H, [], (Nw.refl (e0.trans e1)).go (Ex.new hD), fresh_back (e0.trans e1) hD, upd_same, rfl, fun j y hj => by simp at hj⟩
    (fun i H' _ p => by
      obtain ⟨G, acc, n, _⟩ := p
      exact ex_l (n.up.trans n.st) hx)
    (fun i x H' hi p => by
      obtain ⟨G, acc, n, gD, hacc, hl, hr⟩ := p
      have il : i < xs.length := (List.getElem?_eq_some_iff.mp hi).1
      have ne : H' D ≠ none := by rw [hacc]; exact fun z => nomatch z
      have key := hs i x G H' n.up n.st hi (fun y H4 => ∃ acc, H4 D = some (.lst acc) ∧ acc.length < sizeLine ∧ ∃ G acc', Nw H H1 G (upd H4 D (.lst (acc ++ [y]))) ∧ G D = none ∧ (upd H4 D (.lst (acc ++ [y]))) D = some (.lst acc') ∧ acc'.length = i + 1 ∧ ∀ j y, acc'[j]? = some y → Rl j y G) fun y G' H2 n' r => by
        have n2 := n.trans n'
        have g2 : G' D = none := n'.fr D gD ne
        refine ⟨acc, n'.kp _ _ hacc, sz_lt (by omega), G', acc ++ [y], ⟨n2.up, n2.st.mut g2, n2.kp.mut hD, n2.fr⟩, g2, upd_same, by rw [List.length_append, hl]; rfl, fun j z hj => ?_⟩
        by_cases hji : j < acc.length
        · rw [List.getElem?_append_left hji] at hj
          exact hm j z G G' (hr j z hj) n'.up
        · have := (List.getElem?_eq_some_iff.mp hj).1
          rw [List.length_append, List.length_singleton] at this
          have ej : j = acc.length := by omega
          rw [ej, List.getElem?_append_right (Nat.le_refl _)] at hj
          simp at hj
          rw [ej, hl, ← hj]
          exact r
      exact key)
    (fun H' p => by
      obtain ⟨G, acc, n, gD, hacc, hl, hr⟩ := p
      refine q (.ref D) (upd G D (.lst acc)) H' ⟨n.up.trans (Ex.new gD), fun b u z => ?_, e1.trans n.kp, fun b z z1 => ?_⟩ ⟨D, acc, rfl, fresh_back (e0.trans e1) hD, upd_same, hl, fun j y hj => hm j y G _ (hr j y hj) (Ex.new gD)⟩
      · by_cases w : b = D
        · rw [w, upd_same] at z
          rw [w, hacc, z]
        · rw [upd_ne w] at z
          exact n.st _ _ z
      · have w : b ≠ D := fun w => z1 (by rw [w]; exact fresh_back e1 hD)
        rw [upd_ne w]
        exact n.fr b z (by
          cases y : H0 b with
          | none => exact absurd y z1
          | some o => rw [e1 _ _ y]; exact fun z => nomatch z))⟩
theorem en_lcL (Rl : Nat → V → Hp → Prop) (hm : ∀ i y G G', Rl i y G → Ex G G' → Rl i y G') (h : Ev tl σ H (.ref a)) (hx : SqL K H a xs) (hz : xs.length ≤ 40000)
    (hs : ∀ i x G H1, Ex H G → Ex G H1 → xs[i]? = some x → ∀ Q : VK, (∀ y G' H2, Nw G H1 G' H2 → Rl i y G' → Q y H2) → g x (wipe σ vs) H1 fun σ2 H2 => wipe σ2 vs = wipe σ vs ∧ te σ2 H2 Q) :
    EvN (tLc (iList K tl) g tYes te vs) σ H (IsL fun ys G => ys.length = xs.length ∧ ∀ i y, ys[i]? = some y → Rl i y G) :=
  (en_lcLF Rl hm h hx hz hs).imp fun v G _ h => by
    obtain ⟨p, ys, z1, _, z2, z3⟩ := h
    exact ⟨p, ys, z1, z2, z3⟩
theorem eg_new (h : EvN te σ B R) : EvG te σ B d R := fun H s Q q => h H s.ex Q fun v G H2 n r => q v G H2 n.up ⟨n.st, n.fr d s.no (by
  obtain ⟨xs, _, e⟩ := s.dr
  rw [e]
  exact fun z => nomatch z), s.dr.mono n.kp⟩ r
/-! targets -/
/-- (x, y) = a list of two; (x, y, z) = a list of three -/
theorem pg_row2 {X : Cx} {K : PySem.W.Frag} {x y : Str} {i j k : Nat} {p q pos : Pos} (hK : X.K = K) (hc : X.calm = true) (h1 : PG X (.Name x p) (gName i)) (h2 : PG X (.Name y q) (gName j)) : PG X (.Tuple [.Name x p, .Name y q] k pos) (gUnl K 2 (gCons (gName i) (gCons (gName j) gNil))) := by
  subst hK
  exact pg_unl hc (pgs_cons h1 (pgs_cons h2 pgs_nil))
theorem pg_row3 {X : Cx} {K : PySem.W.Frag} {x y z : Str} {i j l k : Nat} {p q r pos : Pos} (hK : X.K = K) (hc : X.calm = true) (h1 : PG X (.Name x p) (gName i)) (h2 : PG X (.Name y q) (gName j)) (h3 : PG X (.Name z r) (gName l)) :
    PG X (.Tuple [.Name x p, .Name y q, .Name z r] k pos) (gUnl K 3 (gCons (gName i) (gCons (gName j) (gCons (gName l) gNil)))) := by
  subst hK
  exact pg_unl hc (pgs_cons h1 (pgs_cons h2 (pgs_cons h3 pgs_nil)))
/-! statements -/
variable {D : Ends} {tz : TS}
theorem s_asgN {i : Nat} (h : EvN te σ H R) (k : ∀ v G H2, Nw H H G H2 → R v G → D.nx (σ.set i (some v)) H2) : tAsg te (gName i) D σ H := h H (Ex.refl H) _ fun v G H2 n r => k v G H2 n r
theorem q_asgN {i : Nat} (h : EvN te σ H R) (k : ∀ v G H2, Nw H H G H2 → R v G → tz D (σ.set i (some v)) H2) : tSeq (tAsg te (gName i)) tz D σ H := h H (Ex.refl H) _ fun v G H2 n r => k v G H2 n r
end
end KNew
-- E9
namespace K01
open PySem PySem.Spec PyProof.Rows L2 Evl KEv TL KDd KSq KSame KTxt KHot KSup KNew
/-! _add_sign -/
abbrev Sgn := Str × List Str × Str
def signFault (sorts : List Row) (done : List Str) (g : Sgn) : Option (EK × Str) :=
  if nameB (tl g.1) = false then some (.name, g.1) else if decide (g.1 ∈ done) = true then some (.twice, g.1) else if decide (4 < g.2.1.length) = true then some (.count, "arguments") else
    ((g.2.1 ++ [g.2.2]).find? fun k => !decide (k ∈ sorts.map (·.1))).map fun k => (.unk, k)
abbrev argK (sg : List (Sgn × Addr)) : List (Key × V) := dkv (fun p => p.1.1) (fun p => V.ref p.2) sg
abbrev resK (sg : List (Sgn × Addr)) : List (Key × V) := dkv (fun p => p.1.1) (fun p => V.str p.1.2.2) sg
theorem call_tuple_sq {X : Cx} : CallR X (.type "tuple") (rTupSq X.K) := call_tuple_of
theorem call_list_sq {X : Cx} : CallR X (.type "list") (rListS X.K) := call_list_of
section
variable {P : Program} {w : World} {K : PySem.W.Frag} {mg : Str → Option Value} {base : Heap} {ec fi : EK → Addr} {C : Addr} {σ : L2.St} {H : Hp} {ta tb ty td : TE}
theorem el_catN {xs ys : List V} (ha : EvL ta σ H xs) (hb : EvL tb σ H ys) (hz : xs.length + ys.length ≤ 1000000) : EvL (tOp rCat ta tb) σ H (xs ++ ys) := fun H1 e Q q =>
  ha H1 e _ fun p H2 hp e2 h2 => hb H2 (e.trans e2) _ fun r H3 hr e3 h3 => ⟨p, r, xs, ys, rfl, rfl, e3 _ _ h2, h3, Nat.le_trans hz (by decide), fun l hl => q l _ (fresh_back (e2.trans e3) hl) ((e2.trans e3).trans (Ex.new hl)) upd_same⟩
theorem q_dputU {D : Ends} {tz : TS} {a : Addr} {kvs : List (Key × V)} {k : Key} {xs : List V} (hv : EvU ta σ H xs) (hd : Ev td σ H (.ref a)) (hk : Ev ty σ H (kV k)) (h : H a = some (.dK kvs)) (hl : kvs.length ≤ 100000)
    (kk : ∀ t H1, H t = none → Ex H H1 → H1 t = some (.tup xs) → tz D σ (upd H1 a (.dK (putK kvs k (.ref t))))) : tSeq (sDPut td ty ta) tz D σ H :=
  hv H (Ex.refl H) _ fun t H1 ht e1 h1 => hd H1 e1 _ fun H2 e2 => hk H2 (e1.trans e2) _ fun H3 e3 => ⟨a, _, rfl, DPut.k (e3 _ _ (e2 _ _ (e1 _ _ h))) (Nat.lt_of_le_of_lt hl (by decide)), kk t H3 ht ((e1.trans e2).trans e3) (e3 _ _ (e2 _ _ h1))⟩
theorem eu_tupL {te : TE} {a : Addr} {xs : List V} (h : Ev te σ H (.ref a)) (hx : SqL K H a xs) : EvU (tCB (rTupSq K) (tCons te tNil)) σ H xs := fun H1 e Q q =>
  h H1 e _ fun H2 e2 => ⟨a, xs, rfl, .inl ⟨ex_l (e.trans e2) hx, fun l hl => q l _ (fresh_back e2 hl) (e2.trans (Ex.new hl)) upd_same⟩⟩
/-- the first that fails -/
theorem find_first {α : Type} {p : α → Bool} {x : α} : ∀ {l : List α} {i : Nat}, (∀ y ∈ l.take i, p y = false) → l[i]? = some x → p x = true → l.find? p = some x
  | [], _, _, h, _ => by simp at h
  | y :: l, 0, _, h, hx => by
    have e : y = x := by simpa using h
    rw [List.find?_cons, e, hx]
  | y :: l, i + 1, ha, h, hx => by
    rw [List.find?_cons, ha y (by simp)]
    exact find_first (i := i) (fun z hz => ha z (by rw [List.take_succ_cons]; exact List.mem_cons_of_mem _ hz)) (by simpa using h) hx
def spAddSign (ec : EK → Addr) (C : Addr) : Sp := fun vs H Q E => ∃ (a pc pa pr p : Addr) (sorts : List Row) (sg : List (Sgn × Addr)) (g : Sgn), vs = [.ref a, .str g.1, .ref p, .str g.2.2] ∧ AtI C H a [("_capitals", .ref pc), ("_arguments", .ref pa), ("_results", .ref pr)] ∧ pa ≠ pr ∧ pc ≠ pa ∧ pc ≠ pr ∧
  H pc = some (.dK (capK sorts)) ∧ H pa = some (.dK (argK sg)) ∧ H pr = some (.dK (resK sg)) ∧ H p = some (.lst (g.2.1.map V.str)) ∧ sg.length ≤ 100 ∧ sorts.length ≤ 100 ∧ g.1.length ≤ 100000 ∧ g.2.1.length ≤ 1000 ∧
  (∀ k s, signFault sorts (sg.map fun p => p.1.1) g = some (k, s) → RaisesE ec k s H E) ∧
  (signFault sorts (sg.map fun p => p.1.1) g = none → ∀ t H', H t = none → ExB [pa, pr] H H' → H' t = some (.tup (g.2.1.map V.str)) → H' pa = some (.dK (argK (sg ++ [(g, t)]))) → H' pr = some (.dK (resK (sg ++ [(g, t)]))) → Q .non H')
theorem scAddSign : FnScope ["self", "name", "arguments", "result", "kind"] ["self", "name", "arguments", "result"] (defScope (sSig 2)) := ⟨rfl, rfl, rfl, by decide +kernel, rfl, by decide +kernel, by decide +kernel⟩
theorem ok_add_sign {f fn : Addr} {fd fdn : FuncData} (F : Fun K "_add_sign" "Signature._add_sign" (sSig 2) f fd) (D : DefAt K mg 12 "is_name" ["text"] fn fdn) (N : Nm mg) (M : NmS mg) (S : SigC K C) (E0 : Errs P K mg ec fi) :
    FnOk P w K mg base (L2N.CX P w) 2 f fd ["self", "name", "arguments", "result"] (spAddSign ec C) := by
  have G : FnOk P w K mg base CX0 1 fn fdn ["text"] spIsName := ok_is_name D N
  refine okXN F scAddSign (fun vs H Q E h => ?_) (fun cdv A outer s H vs Q E hr h => ?_)
  · obtain ⟨a, pc, pa, pr, p, sorts, sg, g, rfl, _⟩ := h
    rfl
  · obtain ⟨a, pc, pa, pr, p, sorts, sg, g, rfl, hA, ne1, ne2, ne3, hpc, hpa, hpr, hp, hsg, hso, hn, hg, kf, kn⟩ := h
    have hu := hu_of hr
    have tk := L2N.takes_of (X := cxOf (L2N.CX P w) P w K mg base ["self", "name", "arguments", "result", "kind"] "Signature._add_sign" (defScope (sSig 2)) f cdv A outer s H E) rfl rfl rfl rfl
    refine ⟨_, pss_cons (ps_if (pt_not (pt_val (pe_call G hr (by rfl) D.g D.F.kp D.b .nil pass0 (pa_cons (pv 1) pa_nil)))) (pss_one (L2N.ps_raise rfl tk (pmk_sup (x := "BadName") (E0.t .name) (by decide) hr (pa_cons (pv 1) pa_nil) (by rfl)))) pss_nil)
      (pss_cons (ps_if (pt_cmp (pc_din hu (pv 1) (pe_fld (pv 0) (by rfl)))) (pss_one (L2N.ps_raise rfl tk (pmk_sup (x := "Twice") (E0.t .twice) (by decide) hr (pa_cons (pv 1) pa_nil) (by rfl)))) pss_nil)
      (pss_cons (ps_if (pt_cmpR op_gt (pe_callB call_len_seq (by rfl) N.len PySem.boot_len (pa_cons (pv 2) pa_nil)) pe_int (nomark _)) (pss_one (L2N.ps_raise rfl tk (pmk_sup (x := "BadCount") (E0.t .count) (by decide) hr (pa_cons pe_str pa_nil) (by rfl)))) pss_nil)
      (pss_cons (ps_for PassesOwn.leaving rfl (pi_list (pe_op op_cat (pe_callTy call_list_sq (by rfl) M.list (by decide +kernel) (pa_cons (pv 2) pa_nil)) (pe_lst (pa_cons (pv 3) pa_nil)))) (pg_name (i := 4) scAddSign.nd rfl (.inl rfl))
        (pss_one (ps_if (pt_cmp (pc_dnotin hu (pv 4) (pe_fld (pv 0) (by rfl)))) (pss_one (L2N.ps_raise rfl tk (pmk_sup (x := "UnknownName") (E0.t .unk) (by decide) hr (pa_cons (pv 4) pa_nil) (by rfl)))) pss_nil)))
      (pss_cons (ps_dput hu (pe_fld (pv 0) (by rfl)) (pv 1) (pe_callTy call_tuple_sq (by rfl) M.tuple (by decide +kernel) (pa_cons (pv 2) pa_nil)) rfl) (pss_one (ps_dput hu (pe_fld (pv 0) (by rfl)) (pv 1) (pv 3) rfl)))))), ?_⟩
    have memD : decide (g.1 ∈ sg.map fun p => p.1.1) = decide (g.1 ∈ sg.map fun p : Sgn × Addr => p.1.1) := rfl
    cases b1 : nameB (tl g.1) with
    | false => exact q_when (b := true) (et_is (et_not (et_B (ev_call (z := .bl (nameB (tl g.1))) (ea_cons (ev_var rfl) ea_nil) (fun H8 e8 Q q E => ⟨g.1, rfl, hn, fun H9 e9 => q H9 e9⟩)))) (by rw [b1]; rfl)) (fun _ H1 e1 => s_raise (ev_var rfl) rfl ((kf .name g.1 (by unfold signFault; rw [if_pos b1])).mono e1)) (fun z => by cases z)
    | true =>
      refine q_when (b := false) (et_is (et_not (et_B (ev_call (z := .bl (nameB (tl g.1))) (ea_cons (ev_var rfl) ea_nil) (fun H8 e8 Q q E => ⟨g.1, rfl, hn, fun H9 e9 => q H9 e9⟩)))) (by rw [b1]; rfl)) (fun z => by cases z) (fun _ H1 e1 => ?_)
      have u1 : ¬ nameB (tl g.1) = false := by rw [b1]; decide
      cases b2 : decide (g.1 ∈ sg.map fun p => p.1.1) with
      | true => exact q_when (b := true) (et_is (et_test (ev_din (k := Sum.inr g.1) (ev_var rfl) (ev_fld S (ev_var rfl) (hA.ex e1) (f := "_arguments") (v := .ref pa) (List.mem_cons_of_mem _ List.mem_cons_self) (by decide)) (e1 _ _ hpa))) (by rw [dkv_some]; exact b2)) (fun _ H2 e2 => s_raise (ev_var rfl) rfl ((kf .twice g.1 (by unfold signFault; rw [if_neg u1, if_pos b2])).mono (e1.trans e2))) (fun z => by cases z)
      | false =>
        refine q_when (b := false) (et_is (et_test (ev_din (k := Sum.inr g.1) (ev_var rfl) (ev_fld S (ev_var rfl) (hA.ex e1) (f := "_arguments") (v := .ref pa) (List.mem_cons_of_mem _ List.mem_cons_self) (by decide)) (e1 _ _ hpa))) (by rw [dkv_some]; exact b2)) (fun z => by cases z) (fun _ H2 e2 => ?_)
        have e2 := e1.trans e2
        have u2 : ¬ decide (g.1 ∈ sg.map fun p => p.1.1) = true := by rw [b2]; decide
        cases b3 : decide (4 < g.2.1.length) with
        | true => exact q_when (b := true) (et_is (et_test (ev_op (ev_len (ev_var rfl) (sq_of (e2 _ _ hp))) ev_c rv_I0)) (by rw [List.length_map, ← b3]; exact decide_eq_decide.mpr (by omega))) (fun _ H3 e3 => s_raise ev_c rfl ((kf .count "arguments" (by unfold signFault; rw [if_neg u1, if_neg u2, if_pos b3])).mono (e2.trans e3))) (fun z => by cases z)
        | false =>
          refine q_when (b := false) (et_is (et_test (ev_op (ev_len (ev_var rfl) (sq_of (e2 _ _ hp))) ev_c rv_I0)) (by rw [List.length_map, ← b3]; exact decide_eq_decide.mpr (by omega))) (fun z => by cases z) (fun _ H3 e3 => ?_)
          have e3 := e2.trans e3
          have u3 : ¬ decide (4 < g.2.1.length) = true := by rw [b3]; decide
          have hff : signFault sorts (sg.map fun p => p.1.1) g = ((g.2.1 ++ [g.2.2]).find? fun k => !decide (k ∈ sorts.map (·.1))).map fun k => (EK.unk, k) := by unfold signFault; rw [if_neg u1, if_neg u2, if_neg u3]
          refine q_forNLn (j := 4) (xs := g.2.1.map V.str ++ [V.str g.2.2]) (el_catN (el_list (ev_var rfl) (sq_of (e3 _ _ hp))) (el_lst (ea_cons (ev_var rfl) ea_nil) (by simp)) (by simp; omega))
            (fun q i σ' H' => (∃ u4, σ' = [some (.ref a), some (.str g.1), some (.ref p), some (.str g.2.2), u4]) ∧ Ex H H' ∧ H' q = some (.lst (g.2.1.map V.str ++ [V.str g.2.2])) ∧ ∀ k ∈ (g.2.1 ++ [g.2.2]).take i, decide (k ∈ sorts.map (·.1)) = true)
            (fun q H4 hq e4 h4 => ⟨⟨_, rfl⟩, e3.trans e4, h4, fun k hk => by simp at hk⟩) (fun q i σ' H' _ p => sq_of p.2.2.1) (fun q i x σ' H' hx p => ?_) (fun q σ' H' p => ?_)
          · obtain ⟨⟨u4, rfl⟩, e4, h4, hall⟩ := p
            have hx' : ((g.2.1 ++ [g.2.2]).map V.str)[i]? = some x := by rw [List.map_append]; exact hx
            rw [List.getElem?_map] at hx'
            cases ek : (g.2.1 ++ [g.2.2])[i]? with
            | none => rw [ek] at hx'; cases hx'
            | some k =>
              rw [ek] at hx'
              obtain rfl : V.str k = x := Option.some.inj hx'
              cases b5 : decide (k ∈ sorts.map (·.1)) with
              | false => exact s_when (b := true) (et_is (et_test (ev_dnotin (k := Sum.inr k) (ev_var rfl) (ev_fld S (ev_var rfl) (hA.ex e4) (f := "_capitals") (v := .ref pc) List.mem_cons_self (by decide)) (.inl (e4 _ _ hpc)))) (by rw [dkv_some, b5]; rfl)) (fun _ H5 e5 => s_raise (ev_var rfl) rfl ((kf .unk k (by rw [hff, find_first (fun y hy => by rw [hall y hy]; rfl) ek (by rw [b5]; rfl)]; rfl)).mono (e4.trans e5))) (fun z => by cases z)
              | true =>
                refine s_when (b := false) (et_is (et_test (ev_dnotin (k := Sum.inr k) (ev_var rfl) (ev_fld S (ev_var rfl) (hA.ex e4) (f := "_capitals") (v := .ref pc) List.mem_cons_self (by decide)) (.inl (e4 _ _ hpc)))) (by rw [dkv_some, b5]; rfl)) (fun z => by cases z) (fun _ H5 e5 => ⟨⟨_, rfl⟩, e4.trans e5, e5 _ _ h4, fun y hy => ?_⟩)
                rw [List.take_add_one, ek] at hy
                rcases List.mem_append.mp hy with z | z
                · exact hall y z
                · have z' : y = k := by simpa using z
                  rw [z']
                  exact b5
          · obtain ⟨⟨u4, rfl⟩, e4, h4, hall⟩ := p
            have hnone : signFault sorts (sg.map fun p => p.1.1) g = none := by
              rw [hff, List.find?_eq_none.mpr fun k hk => by
                rw [hall k (by rw [List.take_of_length_le (by simp)]; exact hk)]
                decide]
              rfl
            refine q_dputU (k := Sum.inr g.1) (eu_tupL (ev_var rfl) (sq_of (e4 _ _ hp))) (ev_fld S (ev_var rfl) (hA.ex e4) (f := "_arguments") (v := .ref pa) (List.mem_cons_of_mem _ List.mem_cons_self) (by decide)) (ev_var rfl) (e4 _ _ hpa) (by rw [dkv_len]; omega) fun t H5 ht e5 h5 => ?_
            have ht0 : H t = none := fresh_back e4 ht
            have e5 := e4.trans e5
            have put1 := dkv_put (k := fun p : Sgn × Addr => p.1.1) (v := fun p => V.ref p.2) (l := sg) (r := (g, t)) b2
            have put2 := dkv_put (k := fun p : Sgn × Addr => p.1.1) (v := fun p => V.str p.1.2.2) (l := sg) (r := (g, t)) b2
            have hA5 := (hA.ex e5).upd (u := .dK (argK (sg ++ [(g, t)]))) (e5 _ _ hpa) (fun _ _ _ z => nomatch z)
            have hpr5 : (L2.upd H5 pa (.dK (argK (sg ++ [(g, t)])))) pr = some (.dK (resK sg)) := by rw [upd_ne (Ne.symm ne1)]; exact e5 _ _ hpr
            have nta : t ≠ pa := fun z => by rw [z, hpa] at ht0; cases ht0
            have ntr : t ≠ pr := fun z => by rw [z, hpr] at ht0; cases ht0
            rw [show putK (argK sg) (Sum.inr g.1) (.ref t) = argK (sg ++ [(g, t)]) from put1]
            refine s_dput (k := Sum.inr g.1) (v := .str g.2.2) (ev_var rfl) (ev_fld S (ev_var rfl) hA5 (f := "_results") (v := .ref pr) (List.mem_cons_of_mem _ (List.mem_cons_of_mem _ List.mem_cons_self)) (by decide)) (ev_var rfl) hpr5 (by rw [dkv_len]; omega) fun H6 e6 => ?_
            refine kn hnone t _ ht0 (fun b o hb ho => ?_) ?_ ?_ ?_
            · have nb1 : b ≠ pa := fun z => hb (by rw [z]; exact List.mem_cons_self)
              have nb2 : b ≠ pr := fun z => hb (by rw [z]; exact List.mem_cons_of_mem _ List.mem_cons_self)
              rw [upd_ne nb2]
              exact e6 _ _ (by rw [upd_ne nb1]; exact e5 _ _ ho)
            · rw [upd_ne ntr]
              exact e6 _ _ (by rw [upd_ne nta]; exact h5)
            · rw [upd_ne ne1]
              exact e6 _ _ upd_same
            · rw [upd_same]
              exact congrArg (fun z => some (HO.dK z)) put2
end
end K01
-- E10
namespace K01
open PySem PySem.Spec PyProof.Rows L2 Evl KEv TL KDd KSq KSame KTxt KHot KSup KNew
/-! Signature.__init__ -/
section
variable {P : Program} {w : World} {K : PySem.W.Frag} {mg : Str → Option Value} {base : Heap} {ec fi : EK → Addr} {C : Addr} {σ : L2.St} {H : Hp}
theorem scInit : FnScope ["self", "sorts", "signs", "name", "capital", "arguments", "result"] ["self", "sorts", "signs"] (defScope (sSig 0)) := ⟨rfl, rfl, rfl, by decide +kernel, rfl, by decide +kernel, by decide +kernel⟩
/-- the first fault, the sorts one after another, then the signs -/
def sortsFrom : List Row → List Row → Option (EK × Str)
  | _, [] => none
  | done, r :: rs => match sortFault done r.1 r.2 with
    | some f => some f
    | none => sortsFrom (done ++ [r]) rs
def signsFrom (sorts : List Row) : List Str → List Sgn → Option (EK × Str)
  | _, [] => none
  | done, g :: gs => match signFault sorts done g with
    | some f => some f
    | none => signsFrom sorts (done ++ [g.1]) gs
def firstSorts (sorts : List Row) : Option (EK × Str) := if decide (1 ≤ sorts.length ∧ sorts.length ≤ 8) = true then sortsFrom [] sorts else some (.count, "sorts")
def firstFault (sorts : List Row) (signs : List Sgn) : Option (EK × Str) := match firstSorts sorts with
  | some f => some f
  | none => if decide (12 < signs.length) = true then some (.count, "signs") else signsFrom sorts [] signs
/-- rows that are given as lists -/
def RowAt (H : Hp) (p : Addr) (r : Row) : Prop := H p = some (.lst [.str r.1, .str r.2])
def SgnAt (H : Hp) (p : Addr) (g : Sgn) : Prop := ∃ q, H p = some (.lst [.str g.1, .ref q, .str g.2.2]) ∧ H q = some (.lst (g.2.1.map V.str))
def RowsAt {α : Type} (f : Hp → Addr → α → Prop) (H : Hp) (b : Addr) (rs : List α) : Prop := ∃ ads : List Addr, H b = some (.lst (ads.map V.ref)) ∧ ads.length = rs.length ∧ ∀ (i : Nat) (p : Addr) (r : α), ads[i]? = some p → rs[i]? = some r → f H p r
/-- rows that stand as tuples -/
def TupsAt {α : Type} (f : Hp → Addr → α → Prop) (H : Hp) (b : Addr) (rs : List α) : Prop := ∃ ads : List Addr, H b = some (.tup (ads.map V.ref)) ∧ ads.length = rs.length ∧ ∀ (i : Nat) (p : Addr) (r : α), ads[i]? = some p → rs[i]? = some r → f H p r
def RowT (H : Hp) (p : Addr) (r : Row) : Prop := H p = some (.tup [.str r.1, .str r.2])
def SgnT (H : Hp) (p : Addr) (g : Sgn) : Prop := ∃ q, H p = some (.tup [.str g.1, .ref q, .str g.2.2]) ∧ H q = some (.tup (g.2.1.map V.str))
/-- a signature that was made -/
def MadeAt (C : Addr) (H : Hp) (a : Addr) (sorts : List Row) (signs : List Sgn) : Prop := ∃ (pc ps pa pr ts tg : Addr) (sg : List (Sgn × Addr)) (said : Str),
  AtI C H a [("_capitals", .ref pc), ("_sorts", .ref ps), ("_arguments", .ref pa), ("_results", .ref pr), ("sorts", .ref ts), ("signs", .ref tg), ("said", .str said)] ∧
  (∃ dx fs, H a = some (.ins C dx fs) ∧ ∀ m ∈ (["_add_sort", "_add_sign", "capital", "arguments", "result", "is_bare", "sort_of_word", "fault", "check"] : List Str), fs.lookup m = none) ∧
  H pc = some (.dK (capK sorts)) ∧ H ps = some (.dK (sorK sorts)) ∧ H pa = some (.dK (argK sg)) ∧ H pr = some (.dK (resK sg)) ∧ sg.map (·.1) = signs ∧ (∀ p ∈ sg, H p.2 = some (.tup (p.1.2.1.map V.str))) ∧
  TupsAt RowT H ts sorts ∧ TupsAt SgnT H tg signs ∧ (sorts.map (·.1))[0]? = some said
def RaisesB (ec : EK → Addr) (bs : List Addr) (k : EK) (s : Str) (H : Hp) (E : XK) : Prop := ∀ d H', H d = none → ExB bs H H' → H' d = some (.xd ((fl k).zip [V.str s]).reverse) → E (.ref (ec k)) (some d) H'
def spInit (ec : EK → Addr) (C : Addr) : Sp := fun vs H Q E => ∃ (a b c dx : Addr) (sorts : List Row) (signs : List Sgn), vs = [.ref a, .ref b, .ref c] ∧ H a = some (.ins C dx []) ∧ RowsAt RowAt H b sorts ∧ RowsAt SgnAt H c signs ∧
  sorts.length ≤ 1000 ∧ signs.length ≤ 1000 ∧ (∀ r ∈ sorts, r.1.length ≤ 1000 ∧ r.2.length ≤ 1000) ∧ (∀ g ∈ signs, g.1.length ≤ 1000 ∧ g.2.1.length ≤ 1000) ∧
  (∀ k s, firstFault sorts signs = some (k, s) → RaisesB ec [a] k s H E) ∧ (firstFault sorts signs = none → ∀ H', ExB [a] H H' → MadeAt C H' a sorts signs → Q .non H')
theorem q_fldD {D : Ends} {tz : TS} {ta tv : TE} {a dx : Addr} {fs : List (Str × V)} {f : Str} {kvs : List (Key × V)} (S : SigC K C) (hv : EvD tv σ H kvs) (ha : Ev ta σ H (.ref a)) (h : H a = some (.ins C dx fs)) (hf : f ∈ (["_capitals", "_sorts", "_arguments", "_results", "sorts", "signs", "said"] : List Str)) (hl : fs.length ≤ 900)
    (k : ∀ p H1, H p = none → Ex H H1 → H1 p = some (.dK kvs) → tz D σ (upd H1 a (.ins C dx (putF f (.ref p) fs)))) : tSeq (sFld K ta tv f) tz D σ H :=
  hv H (Ex.refl H) _ fun p H1 hp e1 h1 => ha H1 e1 _ fun H2 e2 => ⟨a, C, dx, fs, rfl, e2 _ _ (e1 _ _ h), S.cl, S.na f hf, by omega, k p H2 hp (e1.trans e2) (e2 _ _ h1)⟩
theorem q_fldU {D : Ends} {tz : TS} {ta tv : TE} {a dx : Addr} {fs : List (Str × V)} {f : Str} {xs : List V} (S : SigC K C) (hv : EvU tv σ H xs) (ha : Ev ta σ H (.ref a)) (h : H a = some (.ins C dx fs)) (hf : f ∈ (["_capitals", "_sorts", "_arguments", "_results", "sorts", "signs", "said"] : List Str)) (hl : fs.length ≤ 900)
    (k : ∀ p H1, H p = none → Ex H H1 → H1 p = some (.tup xs) → tz D σ (upd H1 a (.ins C dx (putF f (.ref p) fs)))) : tSeq (sFld K ta tv f) tz D σ H :=
  hv H (Ex.refl H) _ fun p H1 hp e1 h1 => ha H1 e1 _ fun H2 e2 => ⟨a, C, dx, fs, rfl, e2 _ _ (e1 _ _ h), S.cl, S.na f hf, by omega, k p H2 hp (e1.trans e2) (e2 _ _ h1)⟩
theorem s_fldV {D : Ends} {ta tv : TE} {a dx : Addr} {fs : List (Str × V)} {f : Str} {v : V} (S : SigC K C) (hv : Ev tv σ H v) (ha : Ev ta σ H (.ref a)) (h : H a = some (.ins C dx fs)) (hf : f ∈ (["_capitals", "_sorts", "_arguments", "_results", "sorts", "signs", "said"] : List Str)) (hl : fs.length ≤ 900)
    (k : ∀ H1, Ex H H1 → D.nx σ (upd H1 a (.ins C dx (putF f v fs)))) : sFld K ta tv f D σ H :=
  hv H (Ex.refl H) _ fun H1 e1 => ha H1 e1 _ fun H2 e2 => ⟨a, C, dx, fs, rfl, e2 _ _ (e1 _ _ h), S.cl, S.na f hf, by omega, k H2 (e1.trans e2)⟩
theorem RaisesB.up {k : EK} {s : Str} {bs : List Addr} {H' : Hp} {E : XK} (h : RaisesB ec bs k s H E) (e : ExB bs H H') (hf : ∀ d, H' d = none → H d = none) : RaisesE ec k s H' E := fun d H2 hd e2 h2 => h d H2 (hf d hd) (fun b o hb ho => e2 b o (e b o hb ho)) h2
theorem putF_len {f : Str} {v : V} {n : Nat} : ∀ {fs : List (Str × V)}, fs.length ≤ n → (putF f v fs).length ≤ n + 1
  | [], _ => by
    show 1 ≤ n + 1
    omega
  | (g, u) :: fs, h => by
    unfold putF
    split
    · simp only [List.length_cons] at h ⊢
      omega
    · have h' : fs.length ≤ n - 1 := by
        simp only [List.length_cons] at h
        omega
      have q := putF_len (f := f) (v := v) h'
      simp only [List.length_cons] at h ⊢
      omega
theorem ExB.upd {a : Addr} {G : Hp} {o : HO} (h : ExB [a] H G) : ExB [a] H (upd G a o) := fun b u hb hu => by
  rw [upd_ne (fun z => hb (by rw [z]; exact List.mem_cons_self))]
  exact h b u hb hu
theorem ExB.ex {bs : List Addr} {G G' : Hp} (h : ExB bs H G) (e : Ex G G') : ExB bs H G' := fun b u hb hu => e _ _ (h b u hb hu)
theorem from_step {done rs : List Row} {r : Row} (h : sortFault done r.1 r.2 = none) : sortsFrom done (r :: rs) = sortsFrom (done ++ [r]) rs := by
  rw [sortsFrom, h]
theorem sign_step {sorts : List Row} {done : List Str} {gs : List Sgn} {g : Sgn} (h : signFault sorts done g = none) : signsFrom sorts done (g :: gs) = signsFrom sorts (done ++ [g.1]) gs := by
  rw [signsFrom, h]
theorem sign_stop {sorts : List Row} {done : List Str} {gs : List Sgn} {g : Sgn} {f : EK × Str} (h : signFault sorts done g = some f) : signsFrom sorts done (g :: gs) = some f := by
  rw [signsFrom, h]
theorem from_stop {done rs : List Row} {r : Row} {f : EK × Str} (h : sortFault done r.1 r.2 = some f) : sortsFrom done (r :: rs) = some f := by
  rw [sortsFrom, h]
theorem drop_at {α : Type} {l : List α} {i : Nat} {x : α} (h : l[i]? = some x) : l.drop i = x :: l.drop (i + 1) := by
  obtain ⟨hi, e⟩ := List.getElem?_eq_some_iff.mp h
  rw [List.drop_eq_getElem_cons hi, e]
theorem take_at {α : Type} {l : List α} {i : Nat} {x : α} (h : l[i]? = some x) : l.take (i + 1) = l.take i ++ [x] := by
  rw [List.take_add_one, h]
  rfl
/-- what stands while __init__ adds the sorts -/
structure InitSt (C a dx pc ps pa pr : Addr) (fs : List (Str × V)) (done : List Row) (sg : List (Sgn × Addr)) (H H' : Hp) : Prop where
  ex : ExB [a] H H'
  at_ : H' a = some (.ins C dx fs)
  pc : H' pc = some (.dK (capK done))
  ps : H' ps = some (.dK (sorK done))
  pa : H' pa = some (.dK (argK sg))
  pr : H' pr = some (.dK (resK sg))
  tup : ∀ p ∈ sg, H' p.2 = some (.tup (p.1.2.1.map V.str))
/-- the four dicts, new and apart -/
structure Apart (H : Hp) (a pc ps pa pr : Addr) : Prop where
  n1 : H pc = none
  n2 : H ps = none
  n3 : H pa = none
  n4 : H pr = none
  a1 : pc ≠ a
  a2 : ps ≠ a
  a3 : pa ≠ a
  a4 : pr ≠ a
  d12 : pc ≠ ps
  d13 : pc ≠ pa
  d14 : pc ≠ pr
  d23 : ps ≠ pa
  d24 : ps ≠ pr
  d34 : pa ≠ pr
theorem q_fldN {D : Ends} {tz : TS} {ta tv : TE} {a dx : Addr} {fs : List (Str × V)} {f : Str} {R : V → Hp → Prop} (S : SigC K C) (hv : EvN tv σ H R) (ha : Ev ta σ H (.ref a)) (h : H a = some (.ins C dx fs)) (hf : f ∈ (["_capitals", "_sorts", "_arguments", "_results", "sorts", "signs", "said"] : List Str)) (hl : fs.length ≤ 900)
    (k : ∀ v G H1, Nw H H G H1 → R v G → tz D σ (upd H1 a (.ins C dx (putF f v fs)))) : tSeq (sFld K ta tv f) tz D σ H :=
  hv H (Ex.refl H) _ fun v G H1 n r => ha H1 n.kp _ fun H2 e2 => ⟨a, C, dx, fs, rfl, e2 _ _ (n.kp _ _ h), S.cl, S.na f hf, by omega, k v G H2 (n.go e2) r⟩
/-- tuples stay -/
def TSt (H H' : Hp) : Prop := ∀ p xs, H p = some (.tup xs) → H' p = some (.tup xs)
theorem TSt.upd {G H' : Hp} {a dx : Addr} {fs fs' : List (Str × V)} (e : Ex G H') (h : H' a = some (.ins C dx fs)) : TSt G (upd H' a (.ins C dx fs')) := fun p xs hp => by
  rw [upd_ne (fun z => by
    rw [← z, e _ _ hp] at h
    cases h)]
  exact e _ _ hp
theorem TupsAt.row {H' : Hp} {b : Addr} {rs : List Row} (h : TupsAt RowT H b rs) (e : TSt H H') : TupsAt RowT H' b rs := by
  obtain ⟨ads, h1, h2, h3⟩ := h
  exact ⟨ads, e _ _ h1, h2, fun i p r hp hr => e _ _ (h3 i p r hp hr)⟩
theorem TupsAt.sgn {H' : Hp} {b : Addr} {rs : List Sgn} (h : TupsAt SgnT H b rs) (e : TSt H H') : TupsAt SgnT H' b rs := by
  obtain ⟨ads, h1, h2, h3⟩ := h
  refine ⟨ads, e _ _ h1, h2, fun i p r hp hr => ?_⟩
  obtain ⟨q, h4, h5⟩ := h3 i p r hp hr
  exact ⟨q, e _ _ h4, e _ _ h5⟩
/-- refs, told one by one -/
theorem refsOf1 {α : Type} {f : Hp → Addr → α → Prop} {G : Hp} : ∀ {ys : List V} {rs : List α}, ys.length = rs.length → (∀ (i : Nat) (y : V), ys[i]? = some y → ∃ p r, y = V.ref p ∧ rs[i]? = some r ∧ f G p r) →
    ∃ ads : List Addr, ys = ads.map V.ref ∧ ads.length = rs.length ∧ ∀ (i : Nat) (p : Addr) (r : α), ads[i]? = some p → rs[i]? = some r → f G p r
  | [], [], _, _ => ⟨[], rfl, rfl, fun i p r hp _ => by simp at hp⟩
  | y :: ys, r :: rs, hl, h => by
    obtain ⟨p, r', ey, er, hp⟩ := h 0 y rfl
    obtain ⟨ads, e1, e2, e3⟩ := refsOf1 (ys := ys) (rs := rs) (by simpa using hl) fun i y hy => h (i + 1) y hy
    have er' : r = r' := by simpa using er
    refine ⟨p :: ads, by rw [ey, e1]; rfl, by simp [e2], fun i q s hq hs => ?_⟩
    cases i with
    | zero =>
      have z1 : p = q := by simpa using hq
      have z2 : r = s := by simpa using hs
      rw [← z1, ← z2, er']
      exact hp
    | succ i => exact e3 i q s (by simpa using hq) (by simpa using hs)
theorem ok_init {f f1 f2 fn : Addr} {fd fd1 fd2 fdn : FuncData} (F : Fun K "__init__" "Signature.__init__" (sSig 0) f fd) (F1 : Fun K "_add_sort" "Signature._add_sort" (sSig 1) f1 fd1) (F2 : Fun K "_add_sign" "Signature._add_sign" (sSig 2) f2 fd2)
    (m1 : Meth K C "_add_sort" f1) (m2 : Meth K C "_add_sign" f2) (D : DefAt K mg 12 "is_name" ["text"] fn fdn) (N : Nm mg) (M : NmS mg) (S : SigC K C) (E0 : Errs P K mg ec fi)
    (b1 : Binds K fd1 ["self", "name", "capital"] []) (b2 : Binds K fd2 ["self", "name", "arguments", "result"] []) :
    FnOk P w K mg base (L2N.CX P w) 3 f fd ["self", "sorts", "signs"] (spInit ec C) := by
  have G1 : FnOk P w K mg base (L2N.CX P w) 2 f1 fd1 ["self", "name", "capital"] (spAddSort ec C) := ok_add_sort F1 D N S E0
  have G2 : FnOk P w K mg base (L2N.CX P w) 2 f2 fd2 ["self", "name", "arguments", "result"] (spAddSign ec C) := ok_add_sign F2 D N M S E0
  refine okXN F scInit (fun vs H Q E h => ?_) (fun cdv A outer s H vs Q E hr h => ?_)
  · obtain ⟨a, b, c, dx, sorts, signs, rfl, _⟩ := h
    rfl
  · obtain ⟨a, b, c, dx, sorts, signs, rfl, hA, hb, hc, z1, z2, z3, z4, kf, kn⟩ := h
    have hu := hu_of hr
    have tk := L2N.takes_of (X := cxOf (L2N.CX P w) P w K mg base ["self", "sorts", "signs", "name", "capital", "arguments", "result"] "Signature.__init__" (defScope (sSig 0)) f cdv A outer s H E) rfl rfl rfl rfl
    have ps : Passes (L2N.CX P w) (cxOf (L2N.CX P w) P w K mg base ["self", "sorts", "signs", "name", "capital", "arguments", "result"] "Signature.__init__" (defScope (sSig 0)) f cdv A outer s H E) E := L2N.passes_call tk fun _ _ _ _ h => h
    refine ⟨_, pss_cons (ps_if (pt_not (pt_chain op_le op_le pe_int (pe_callB call_len_seq (by rfl) N.len PySem.boot_len (pa_cons (pv 1) pa_nil)) pe_int)) (pss_one (L2N.ps_raise rfl tk (pmk_sup (x := "BadCount") (E0.t .count) (by decide) hr (pa_cons pe_str pa_nil) (by rfl)))) pss_nil)
      (pss_cons (ps_fld (pv 0) pe_dnewK rfl) (pss_cons (ps_fld (pv 0) pe_dnewK rfl) (pss_cons (ps_fld (pv 0) pe_dnewK rfl) (pss_cons (ps_fld (pv 0) pe_dnewK rfl)
      (pss_cons (ps_for PassesOwn.leaving rfl (pi_list (pv 1)) (pg_unl rfl (pgs_cons (pg_name (i := 3) scInit.nd rfl (.inl rfl)) (pgs_cons (pg_name (i := 4) scInit.nd rfl (.inl rfl)) pgs_nil)))
        (pss_one (ps_expr (pe_meth (pv 0) S.cl m1 G1 hr b1 .nil ps (pa_cons (pv 3) (pa_cons (pv 4) pa_nil))))))
      (pss_cons (ps_if (pt_cmpR op_gt (pe_callB call_len_seq (by rfl) N.len PySem.boot_len (pa_cons (pv 2) pa_nil)) pe_int (nomark _)) (pss_one (L2N.ps_raise rfl tk (pmk_sup (x := "BadCount") (E0.t .count) (by decide) hr (pa_cons pe_str pa_nil) (by rfl)))) pss_nil)
      (pss_cons (ps_for PassesOwn.leaving rfl (pi_list (pv 2)) (pg_unl rfl (pgs_cons (pg_name (i := 3) scInit.nd rfl (.inl rfl)) (pgs_cons (pg_name (i := 5) scInit.nd rfl (.inl rfl)) (pgs_cons (pg_name (i := 6) scInit.nd rfl (.inl rfl)) pgs_nil))))
        (pss_one (ps_expr (pe_meth (pv 0) S.cl m2 G2 hr b2 .nil ps (pa_cons (pv 3) (pa_cons (pv 5) (pa_cons (pv 6) pa_nil)))))))
      (pss_cons (ps_fld (pv 0) (pe_callTy (T := "tuple") (call_tupK (K := K) rfl) (by rfl) M.tuple (by decide +kernel) (pa_cons (pe_lc (own := [("name", 3), ("capital", 4)]) rfl scInit.nd (pi_list (pv 1)) (blkOk_by (own := [("name", 3), ("capital", 4)]) (N := ["self", "sorts", "signs", "name", "capital", "arguments", "result"]) (sc := defScope (sSig 0)) (by decide +kernel)) (fun _ _ _ _ _ => pg_row2 (K := K) rfl rfl (pg_name (i := 3) scInit.nd rfl (.inl rfl) (hf := .inr rfl)) (pg_name (i := 4) scInit.nd rfl (.inl rfl) (hf := .inr rfl))) (fun _ _ _ _ _ => pts_nil) (fun _ _ _ _ _ => by exact pe_tup (pa_cons (pv 3) (pa_cons (pv 4) pa_nil)))) pa_nil)) rfl)
      (pss_cons (ps_fld (pv 0) (pe_callTy (T := "tuple") (call_tupK (K := K) rfl) (by rfl) M.tuple (by decide +kernel) (pa_cons (pe_lc (own := [("name", 3), ("arguments", 5), ("result", 6)]) rfl scInit.nd (pi_list (pv 2)) (blkOk_by (own := [("name", 3), ("arguments", 5), ("result", 6)]) (N := ["self", "sorts", "signs", "name", "capital", "arguments", "result"]) (sc := defScope (sSig 0)) (by decide +kernel)) (fun _ _ _ _ _ => pg_row3 (K := K) rfl rfl (pg_name (i := 3) scInit.nd rfl (.inl rfl) (hf := .inr rfl)) (pg_name (i := 5) scInit.nd rfl (.inl rfl) (hf := .inr rfl)) (pg_name (i := 6) scInit.nd rfl (.inl rfl) (hf := .inr rfl))) (fun _ _ _ _ _ => pts_nil) (fun _ _ _ _ _ => by exact pe_tup (pa_cons (pv 3) (pa_cons (pe_callTy (T := "tuple") (call_tupK (K := K) rfl) (by rfl) M.tuple (by decide +kernel) (pa_cons (pv 5) pa_nil)) (pa_cons (pv 6) pa_nil))))) pa_nil)) rfl)
      (pss_one (ps_fld (pv 0) (pe_ix (r := rIx K) ix_seq (pe_ix (r := rIx K) ix_seq (pe_fld (pv 0) (by rfl)) pe_int (fun _ _ => rfl)) pe_int (fun _ _ => rfl)) rfl))))))))))), ?_⟩
    obtain ⟨ads, hbl, hbn, hrow⟩ := id hb
    obtain ⟨gds, hcl, hcn, hsgn⟩ := id hc
    have lenS : (ads.map V.ref).length = sorts.length := by rw [List.length_map, hbn]
    cases c1 : decide (1 ≤ sorts.length ∧ sorts.length ≤ 8) with
    | false =>
      refine q_when (b := true) (et_is (et_not (et_chain ev_c (ev_len (xs := ads.map V.ref) (ev_var rfl) (sq_of hbl)) rv_I0 (fun _ => ev_c) (fun _ => rv_I0))) ?_) (fun _ H1 e1 => s_raise ev_c rfl ((kf .count "sorts" (by unfold firstFault firstSorts; rw [c1]; rfl)).up (fun b o _ ho => e1 b o ho) fun d hd => fresh_back e1 hd)) (fun z => by cases z)
      rw [lenS]
      have q := of_decide_eq_false c1
      by_cases q1 : 1 ≤ sorts.length
      · have q2 : ¬ ((sorts.length : Int) ≤ 8) := by omega
        have q1' : (1 : Int) ≤ (sorts.length : Int) := by omega
        simp [q1', q2]
      · have q1' : ¬ ((1 : Int) ≤ (sorts.length : Int)) := by omega
        simp [q1']
    | true =>
      have c1' := of_decide_eq_true c1
      refine q_when (b := false) (et_is (et_not (et_chain ev_c (ev_len (xs := ads.map V.ref) (ev_var rfl) (sq_of hbl)) rv_I0 (fun _ => ev_c) (fun _ => rv_I0))) ?_) (fun z => by cases z) (fun _ H1 e1 => ?_)
      · rw [lenS]
        have q1' : (1 : Int) ≤ (sorts.length : Int) := by omega
        have q2' : ((sorts.length : Int) ≤ 8) := by omega
        simp [q1', q2']
      refine q_fldD (f := "_capitals") S ed_new (ev_var rfl) (e1 _ _ hA) (by decide) (by decide) fun pc H2 np1 e2 hpc => ?_
      have na1 : pc ≠ a := fun z => by rw [z, e1 _ _ hA] at np1; cases np1
      refine q_fldD (f := "_sorts") S ed_new (ev_var rfl) upd_same (by decide) (Nat.le_trans (putF_len (Nat.le_refl 0)) (by decide)) fun ps H3 np2 e3 hps => ?_
      have na2 : ps ≠ a := fun z => by rw [z, upd_same] at np2; cases np2
      rw [upd_ne na2] at np2
      have d12 : pc ≠ ps := fun z => by rw [← z, hpc] at np2; cases np2
      refine q_fldD (f := "_arguments") S ed_new (ev_var rfl) upd_same (by decide) (Nat.le_trans (putF_len (putF_len (Nat.le_refl 0))) (by decide)) fun pa H4 np3 e4 hpa => ?_
      have na3 : pa ≠ a := fun z => by rw [z, upd_same] at np3; cases np3
      rw [upd_ne na3] at np3
      have hpc3 : H3 pc = some (.dK []) := e3 _ _ (by rw [upd_ne na1]; exact hpc)
      have d13 : pc ≠ pa := fun z => by rw [← z, hpc3] at np3; cases np3
      have d23 : ps ≠ pa := fun z => by rw [← z, hps] at np3; cases np3
      refine q_fldD (f := "_results") S ed_new (ev_var rfl) upd_same (by decide) (Nat.le_trans (putF_len (putF_len (putF_len (Nat.le_refl 0)))) (by decide)) fun pr H5 np4 e5 hpr => ?_
      have na4 : pr ≠ a := fun z => by rw [z, upd_same] at np4; cases np4
      rw [upd_ne na4] at np4
      have hpc4 : H4 pc = some (.dK []) := e4 _ _ (by rw [upd_ne na1]; exact hpc3)
      have hps4 : H4 ps = some (.dK []) := e4 _ _ (by rw [upd_ne na2]; exact hps)
      have d14 : pc ≠ pr := fun z => by rw [← z, hpc4] at np4; cases np4
      have d24 : ps ≠ pr := fun z => by rw [← z, hps4] at np4; cases np4
      have d34 : pa ≠ pr := fun z => by rw [← z, hpa] at np4; cases np4
      have x1 : ExB [a] H H1 := fun b o _ ho => e1 b o ho
      have x2 := ((((((x1.ex e2).upd (o := .ins C dx (putF "_capitals" (.ref pc) []))).ex e3).upd (o := .ins C dx (putF "_sorts" (.ref ps) (putF "_capitals" (.ref pc) [])))).ex e4).upd (o := .ins C dx (putF "_arguments" (.ref pa) (putF "_sorts" (.ref ps) (putF "_capitals" (.ref pc) []))))).ex e5
      have hA5 := e5 _ _ (upd_same (H := H4) (a := a) (o := .ins C dx (putF "_arguments" (.ref pa) (putF "_sorts" (.ref ps) (putF "_capitals" (.ref pc) [])))))
      have nH : ∀ {p : Addr} {G : Hp}, p ≠ a → ExB [a] H G → G p = none → H p = none := fun {p G} hp hx hg => by
        cases q : H p with
        | none => rfl
        | some o =>
          rw [hx p o (fun z => hp (List.mem_singleton.mp z)) q] at hg
          cases hg
      have ap : Apart H a pc ps pa pr := ⟨nH na1 x1 np1, nH na2 (x1.ex e2) np2, nH na3 (((x1.ex e2).upd (o := .ins C dx (putF "_capitals" (.ref pc) []))).ex e3) np3,
        nH na4 (((((x1.ex e2).upd (o := .ins C dx (putF "_capitals" (.ref pc) []))).ex e3).upd (o := .ins C dx (putF "_sorts" (.ref ps) (putF "_capitals" (.ref pc) [])))).ex e4) np4, na1, na2, na3, na4, d12, d13, d14, d23, d24, d34⟩
      have st0 : InitSt C a dx pc ps pa pr (putF "_results" (.ref pr) (putF "_arguments" (.ref pa) (putF "_sorts" (.ref ps) (putF "_capitals" (.ref pc) [])))) [] [] H (upd H5 a (.ins C dx (putF "_results" (.ref pr) (putF "_arguments" (.ref pa) (putF "_sorts" (.ref ps) (putF "_capitals" (.ref pc) [])))))) :=
        ⟨x2.upd, upd_same, by rw [upd_ne na1]; exact e5 _ _ (by rw [upd_ne na1]; exact hpc4), by rw [upd_ne na2]; exact e5 _ _ (by rw [upd_ne na2]; exact hps4), by rw [upd_ne na3]; exact e5 _ _ (by rw [upd_ne na3]; exact hpa), by rw [upd_ne na4]; exact hpr, fun p hp => by cases hp⟩
      obtain ⟨fs4, hfs⟩ : ∃ fs4, fs4 = putF "_results" (.ref pr) (putF "_arguments" (.ref pa) (putF "_sorts" (.ref ps) (putF "_capitals" (.ref pc) []))) := ⟨_, rfl⟩
      rw [← hfs] at st0 ⊢
      have l1 : fs4.lookup ("_capitals" : Str) = some (.ref pc) := by rw [hfs]; with_unfolding_all rfl
      have l2 : fs4.lookup ("_sorts" : Str) = some (.ref ps) := by rw [hfs]; with_unfolding_all rfl
      have l3 : fs4.lookup ("_arguments" : Str) = some (.ref pa) := by rw [hfs]; with_unfolding_all rfl
      have l4 : fs4.lookup ("_results" : Str) = some (.ref pr) := by rw [hfs]; with_unfolding_all rfl
      have l5 : ∀ m ∈ (["_add_sort", "_add_sign", "capital", "arguments", "result", "is_bare", "sort_of_word", "fault", "check"] : List Str), fs4.lookup m = none := by
        intro m hm
        have no : ∀ m ∈ (["_add_sort", "_add_sign", "capital", "arguments", "result", "is_bare", "sort_of_word", "fault", "check"] : List Str), m ≠ "_results" ∧ m ≠ "_arguments" ∧ m ≠ "_sorts" ∧ m ≠ "_capitals" := by decide
        obtain ⟨q1, q2, q3, q4⟩ := no m hm
        rw [hfs, lookup_putF, if_neg q1, lookup_putF, if_neg q2, lookup_putF, if_neg q3, lookup_putF, if_neg q4]
        rfl
      have l6 : fs4.length ≤ 4 := by rw [hfs]; exact putF_len (putF_len (putF_len (putF_len (Nat.le_refl 0))))
      have ff0 : firstSorts sorts = sortsFrom [] sorts := by unfold firstSorts; rw [c1]; rfl
      -- the sorts
      refine q_forL (a := b) (xs := ads.map V.ref) (ev_var rfl) (sq_of (st0.ex b _ (fun z => by rw [List.mem_singleton.mp z, hA] at hbl; cases hbl) hbl))
        (fun i σ' H' => (∃ u3 u4 u5 u6, σ' = [some (.ref a), some (.ref b), some (.ref c), u3, u4, u5, u6]) ∧ InitSt C a dx pc ps pa pr fs4 (sorts.take i) [] H H' ∧ sortsFrom [] sorts = sortsFrom (sorts.take i) (sorts.drop i))
        (fun H6 e6 => ⟨⟨_, _, _, _, rfl⟩, ⟨st0.ex.ex e6, e6 _ _ st0.at_, e6 _ _ st0.pc, e6 _ _ st0.ps, e6 _ _ st0.pa, e6 _ _ st0.pr, fun p hp => by cases hp⟩, rfl⟩)
        (fun i σ' H' _ p => sq_of (p.2.1.ex b _ (fun z => by rw [List.mem_singleton.mp z, hA] at hbl; cases hbl) hbl)) (fun i x σ' H' hx p => ?_) (fun σ' H' p => ?_)
      · obtain ⟨⟨u3, u4, u5, u6, rfl⟩, st, hff⟩ := p
        rw [List.getElem?_map] at hx
        cases ep : ads[i]? with
        | none => rw [ep] at hx; cases hx
        | some p =>
          rw [ep] at hx
          obtain rfl : V.ref p = x := Option.some.inj hx
          have hi : i < sorts.length := by rw [← hbn]; exact (List.getElem?_eq_some_iff.mp ep).1
          obtain ⟨r, er⟩ : ∃ r, sorts[i]? = some r := ⟨_, List.getElem?_eq_getElem hi⟩
          have hr1 : H p = some (.lst [.str r.1, .str r.2]) := hrow i p r ep er
          have hp' : H' p = some (.lst [.str r.1, .str r.2]) := st.ex p _ (fun z => by rw [List.mem_singleton.mp z, hA] at hr1; cases hr1) hr1
          have zr := z3 r (List.mem_of_getElem? er)
          refine ⟨p, [.str r.1, .str r.2], rfl, sq_of hp', rfl, _, _, rfl, _, _, rfl, rfl, ?_⟩
          refine ⟨.ref a, rfl, a, dx, fs4, rfl, st.at_, l5 _ (by decide), .str r.1, rfl, .str r.2, rfl, ?_⟩
          have e8 := Ex.refl H'
          have x8 : ExB [a] H H' := st.ex
          refine ⟨a, pc, ps, sorts.take i, r.1, r.2, rfl, ⟨dx, fs4, e8 _ _ st.at_, fun m hm => ?_⟩, d12, e8 _ _ st.pc, e8 _ _ st.ps, by rw [List.length_take]; omega, by omega, by omega, fun k s hk => ?_, fun hk H9 x9 hc9 hs9 => ?_⟩
          · simp only [List.mem_cons, List.not_mem_nil, or_false] at hm
            rcases hm with rfl | rfl
            · exact l1
            · exact l2
          · have hF : firstFault sorts signs = some (k, s) := by
              unfold firstFault
              rw [ff0, hff, drop_at er, from_stop hk]
            refine (kf k s hF).up x8 fun d hd => ?_
            cases q : H d with
            | none => rfl
            | some o =>
              by_cases hda : d = a
              · rw [hda, st.at_] at hd
                cases hd
              · rw [x8 d o (fun z => hda (List.mem_singleton.mp z)) q] at hd
                cases hd
          · refine ⟨⟨_, _, _, _, rfl⟩, ⟨fun b o hb ho => ?_, ?_, ?_, ?_, ?_, ?_, fun p hp => by cases hp⟩, ?_⟩
            · refine x9 b o (fun z => ?_) (st.ex b o hb ho)
              rcases List.mem_cons.mp z with z | z
              · rw [z, ap.n1] at ho; cases ho
              · rw [List.mem_singleton.mp z, ap.n2] at ho; cases ho
            · exact x9 a _ (fun z => by
                rcases List.mem_cons.mp z with z | z
                · exact na1 z.symm
                · exact na2 (List.mem_singleton.mp z).symm) st.at_
            · rw [take_at er]; exact hc9
            · rw [take_at er]; exact hs9
            · exact x9 pa _ (fun z => by
                rcases List.mem_cons.mp z with z | z
                · exact d13 z.symm
                · exact d23 (List.mem_singleton.mp z).symm) st.pa
            · exact x9 pr _ (fun z => by
                rcases List.mem_cons.mp z with z | z
                · exact d14 z.symm
                · exact d24 (List.mem_singleton.mp z).symm) st.pr
            · rw [hff, drop_at er, from_step hk, take_at er]
      · obtain ⟨⟨u3, u4, u5, u6, rfl⟩, st, hff⟩ := p
        have hff' : firstSorts sorts = none := by
          rw [ff0, hff, List.drop_of_length_le (by rw [List.length_map, hbn]; omega)]
          rfl
        rw [List.length_map, hbn, List.take_length] at st
        have hcl' : H' c = some (.lst (gds.map V.ref)) := st.ex c _ (fun z => by rw [List.mem_singleton.mp z, hA] at hcl; cases hcl) hcl
        have lenG : (gds.map V.ref).length = signs.length := by rw [List.length_map, hcn]
        have upE : ∀ {k s H6}, ExB [a] H H6 → (∃ o, H6 a = some o) → firstFault sorts signs = some (k, s) → RaisesE ec k s H6 E := fun {k s H6} x6 ha hF => (kf k s hF).up x6 fun d hd => by
          cases q : H d with
          | none => rfl
          | some o =>
            by_cases hda : d = a
            · obtain ⟨u, hu⟩ := ha
              rw [hda, hu] at hd
              cases hd
            · rw [x6 d o (fun z => hda (List.mem_singleton.mp z)) q] at hd
              cases hd
        cases c2 : decide (12 < signs.length) with
        | true =>
          exact q_when (b := true) (et_is (et_test (ev_op (ev_len (xs := gds.map V.ref) (ev_var rfl) (sq_of hcl')) ev_c rv_I0)) (by rw [lenG, ← c2]; exact decide_eq_decide.mpr (by omega))) (fun _ H6 e6 => s_raise ev_c rfl (upE (st.ex.ex e6) ⟨_, e6 _ _ st.at_⟩ (by unfold firstFault; rw [hff', c2]; rfl))) (fun z => by cases z)
        | false =>
          refine q_when (b := false) (et_is (et_test (ev_op (ev_len (xs := gds.map V.ref) (ev_var rfl) (sq_of hcl')) ev_c rv_I0)) (by rw [lenG, ← c2]; exact decide_eq_decide.mpr (by omega))) (fun z => by cases z) (fun _ H6 e6 => ?_)
          have st6 : InitSt C a dx pc ps pa pr fs4 sorts [] H H6 := ⟨st.ex.ex e6, e6 _ _ st.at_, e6 _ _ st.pc, e6 _ _ st.ps, e6 _ _ st.pa, e6 _ _ st.pr, fun p hp => by cases hp⟩
          have hF0 : firstFault sorts signs = signsFrom sorts [] signs := by
            unfold firstFault
            rw [hff', c2]
            rfl
          have cin : ∀ {G : Hp}, ExB [a] H G → G c = some (.lst (gds.map V.ref)) := fun {G} x => x c _ (fun z => by rw [List.mem_singleton.mp z, hA] at hcl; cases hcl) hcl
          refine q_forL (a := c) (xs := gds.map V.ref) (ev_var rfl) (sq_of (cin st6.ex))
            (fun i σ' H' => (∃ u3 u4 u5 u6, σ' = [some (.ref a), some (.ref b), some (.ref c), u3, u4, u5, u6]) ∧ ∃ sg, InitSt C a dx pc ps pa pr fs4 sorts sg H H' ∧ sg.map (·.1) = signs.take i ∧ signsFrom sorts [] signs = signsFrom sorts (sg.map fun p => p.1.1) (signs.drop i))
            (fun H7 e7 => ⟨⟨_, _, _, _, rfl⟩, [], ⟨st6.ex.ex e7, e7 _ _ st6.at_, e7 _ _ st6.pc, e7 _ _ st6.ps, e7 _ _ st6.pa, e7 _ _ st6.pr, fun p hp => by cases hp⟩, rfl, rfl⟩)
            (fun i σ' H' _ p => by
              obtain ⟨_, sg, st, _⟩ := p
              exact sq_of (cin st.ex)) (fun i x σ' H' hx p => ?_) (fun σ' H' p => ?_)
          · obtain ⟨⟨u3, u4, u5, u6, rfl⟩, sg, st, hsg, hff2⟩ := p
            rw [List.getElem?_map] at hx
            cases ep : gds[i]? with
            | none => rw [ep] at hx; cases hx
            | some p =>
              rw [ep] at hx
              obtain rfl : V.ref p = x := Option.some.inj hx
              have hi : i < signs.length := by rw [← hcn]; exact (List.getElem?_eq_some_iff.mp ep).1
              obtain ⟨g, er⟩ : ∃ g, signs[i]? = some g := ⟨_, List.getElem?_eq_getElem hi⟩
              obtain ⟨q, hp1, hq1⟩ := hsgn i p g ep er
              have hp' := st.ex p _ (fun z => by rw [List.mem_singleton.mp z, hA] at hp1; cases hp1) hp1
              have hq' := st.ex q _ (fun z => by rw [List.mem_singleton.mp z, hA] at hq1; cases hq1) hq1
              have zg := z4 g (List.mem_of_getElem? er)
              have lsg : sg.length ≤ 12 := by
                have := congrArg List.length hsg
                rw [List.length_map, List.length_take] at this
                have := of_decide_eq_false c2
                omega
              refine ⟨p, [.str g.1, .ref q, .str g.2.2], rfl, sq_of hp', rfl, _, _, rfl, _, _, rfl, _, _, rfl, rfl, ?_⟩
              refine ⟨.ref a, rfl, a, dx, fs4, rfl, st.at_, l5 _ (by decide), .str g.1, rfl, .ref q, rfl, .str g.2.2, rfl, ?_⟩
              refine ⟨a, pc, pa, pr, q, sorts, sg, g, rfl, ⟨dx, fs4, st.at_, fun m hm => ?_⟩, d34, d13, d14, st.pc, st.pa, st.pr, hq', by omega, by omega, by omega, zg.2, fun k s hk => ?_, fun hk t H9 ht x9 ht9 ha9 hr9 => ?_⟩
              · simp only [List.mem_cons, List.not_mem_nil, or_false] at hm
                rcases hm with rfl | rfl | rfl
                · exact l1
                · exact l3
                · exact l4
              · exact upE st.ex ⟨_, st.at_⟩ (by rw [hF0, hff2, drop_at er, sign_stop hk])
              · refine ⟨⟨_, _, _, _, rfl⟩, sg ++ [(g, t)], ⟨fun b o hb ho => ?_, ?_, ?_, ?_, ha9, hr9, fun y hy => ?_⟩, ?_, ?_⟩
                · refine x9 b o (fun z => ?_) (st.ex b o hb ho)
                  rcases List.mem_cons.mp z with z | z
                  · rw [z, ap.n3] at ho; cases ho
                  · rw [List.mem_singleton.mp z, ap.n4] at ho; cases ho
                · exact x9 a _ (fun z => by
                    rcases List.mem_cons.mp z with z | z
                    · exact na3 z.symm
                    · exact na4 (List.mem_singleton.mp z).symm) st.at_
                · exact x9 pc _ (fun z => by
                    rcases List.mem_cons.mp z with z | z
                    · exact d13 z
                    · exact d14 (List.mem_singleton.mp z)) st.pc
                · exact x9 ps _ (fun z => by
                    rcases List.mem_cons.mp z with z | z
                    · exact d23 z
                    · exact d24 (List.mem_singleton.mp z)) st.ps
                · rcases List.mem_append.mp hy with z | z
                  · have h0 := st.tup y z
                    refine x9 y.2 _ (fun w => ?_) h0
                    rcases List.mem_cons.mp w with w | w
                    · rw [w, st.pa] at h0; cases h0
                    · rw [List.mem_singleton.mp w, st.pr] at h0; cases h0
                  · rw [List.mem_singleton.mp z]
                    exact ht9
                · rw [List.map_append, hsg, take_at er]
                  rfl
                · rw [hff2, drop_at er, sign_step hk, List.map_append]
                  rfl
          · obtain ⟨⟨u3, u4, u5, u6, rfl⟩, sg, st, hsg, hff2⟩ := p
            have hnone : firstFault sorts signs = none := by
              rw [hF0, hff2, List.drop_of_length_le (by rw [List.length_map, hcn]; omega)]
              rfl
            have hsg' : sg.map (·.1) = signs := by rw [hsg, List.take_of_length_le (by rw [List.length_map, hcn]; omega)]
            have bin : ∀ {G : Hp}, ExB [a] H G → G b = some (.lst (ads.map V.ref)) := fun {G} x => x b _ (fun z => by rw [List.mem_singleton.mp z, hA] at hbl; cases hbl) hbl
            have na : ∀ {q : Addr} {o : HO}, H q = some o → (∀ D dx fs, o ≠ .ins D dx fs) → q ∉ [a] := fun {q o} hq ho z => by
              rw [List.mem_singleton.mp z, hA] at hq
              exact ho _ _ _ (Option.some.inj hq).symm
            refine q_fldN (f := "sorts") S (en_tupL (Rs := fun ys G => ys.length = (ads.map V.ref).length ∧ ∀ i y, ys[i]? = some y → ∃ p r, y = V.ref p ∧ sorts[i]? = some r ∧ RowT G p r) (fun ys G G' h e => ⟨h.1, fun i y hy => ?_⟩)
              (en_lcL (xs := ads.map V.ref) (fun i y G => ∃ p r, y = V.ref p ∧ sorts[i]? = some r ∧ RowT G p r) (fun i y G G' h e => ?_) (ev_var rfl) (sq_of (bin st.ex)) (by rw [lenS]; omega) (fun i x G H1 eG eH hx Q q => ?_))) (ev_var rfl) st.at_ (by decide) (by omega) fun v G H6 n r => ?_
            · obtain ⟨p, r, z1, z2, z3⟩ := h.2 i y hy
              exact ⟨p, r, z1, z2, e _ _ z3⟩
            · obtain ⟨p, r, z1, z2, z3⟩ := h
              exact ⟨p, r, z1, z2, e _ _ z3⟩
            · rw [List.getElem?_map] at hx
              cases ep : ads[i]? with
              | none => rw [ep] at hx; cases hx
              | some p =>
                rw [ep] at hx
                obtain rfl : V.ref p = x := Option.some.inj hx
                have hi : i < sorts.length := by rw [← hbn]; exact (List.getElem?_eq_some_iff.mp ep).1
                obtain ⟨r, er⟩ : ∃ r, sorts[i]? = some r := ⟨_, List.getElem?_eq_getElem hi⟩
                have hr1 : H p = some (.lst [.str r.1, .str r.2]) := hrow i p r ep er
                have hp' := eH _ _ (eG _ _ (st.ex p _ (na hr1 (fun _ _ _ z => nomatch z)) hr1))
                exact ⟨p, [.str r.1, .str r.2], rfl, sq_of hp', rfl, _, _, rfl, _, _, rfl, rfl, rfl, en_eu (eu_tup (ea_cons (ev_var rfl) (ea_cons (ev_var rfl) ea_nil)) (by simp)) H1 eH Q fun v G' H2 n r' => q v G' H2 n (by
                  obtain ⟨t, ys, rfl, ht, rfl⟩ := r'
                  exact ⟨t, r, rfl, er, ht⟩)⟩
            obtain ⟨ts, ys, rfl, hts, hyl, hy⟩ := r
            obtain ⟨tas, rfl, htl, htr⟩ := refsOf1 (f := RowT) (by rw [hyl, lenS]) hy
            have TS0 : TupsAt RowT G ts sorts := ⟨tas, hts, htl, htr⟩
            have hA6 := n.kp _ _ st.at_
            have T1 : TSt G (upd H6 a (.ins C dx (putF "sorts" (.ref ts) fs4))) := TSt.upd n.st hA6
            have T1' := TS0.row T1
            have stay : ∀ {p : Addr} {o : HO}, p ≠ a → H' p = some o → (upd H6 a (.ins C dx (putF "sorts" (.ref ts) fs4))) p = some o := fun {p o} hp ho => by
              rw [upd_ne hp]
              exact n.kp _ _ ho
            have st6 : InitSt C a dx pc ps pa pr (putF "sorts" (.ref ts) fs4) sorts sg H (upd H6 a (.ins C dx (putF "sorts" (.ref ts) fs4))) :=
              ⟨(st.ex.ex n.kp).upd, upd_same, stay na1 st.pc, stay na2 st.ps, stay na3 st.pa, stay na4 st.pr, fun p hp => stay (fun z => by have := st.tup p hp; rw [z, st.at_] at this; cases this) (st.tup p hp)⟩
            have l7 : (putF "sorts" (.ref ts) fs4).length ≤ 5 := putF_len l6
            generalize (upd H6 a (.ins C dx (putF "sorts" (.ref ts) fs4))) = H7 at T1' st6
            refine q_fldN (f := "signs") S (en_tupL (Rs := fun ys G => ys.length = (gds.map V.ref).length ∧ ∀ i y, ys[i]? = some y → ∃ p r, y = V.ref p ∧ signs[i]? = some r ∧ SgnT G p r) (fun ys G G' h e => ⟨h.1, fun i y hy => ?_⟩)
              (en_lcL (xs := gds.map V.ref) (fun i y G => ∃ p r, y = V.ref p ∧ signs[i]? = some r ∧ SgnT G p r) (fun i y G G' h e => ?_) (ev_var rfl) (sq_of (cin st6.ex)) (by rw [lenG]; omega) (fun i x G H1 eG eH hx Q q => ?_))) (ev_var rfl) st6.at_ (by decide) (by omega) fun v G2 H8 n2 r => ?_
            · obtain ⟨p, r, z1, z2, q, z3, z4⟩ := h.2 i y hy
              exact ⟨p, r, z1, z2, q, e _ _ z3, e _ _ z4⟩
            · obtain ⟨p, r, z1, z2, q, z3, z4⟩ := h
              exact ⟨p, r, z1, z2, q, e _ _ z3, e _ _ z4⟩
            · rw [List.getElem?_map] at hx
              cases ep : gds[i]? with
              | none => rw [ep] at hx; cases hx
              | some p =>
                rw [ep] at hx
                obtain rfl : V.ref p = x := Option.some.inj hx
                have hi : i < signs.length := by rw [← hcn]; exact (List.getElem?_eq_some_iff.mp ep).1
                obtain ⟨g, er⟩ : ∃ g, signs[i]? = some g := ⟨_, List.getElem?_eq_getElem hi⟩
                obtain ⟨q0, hp1, hq1⟩ := hsgn i p g ep er
                have hp' := eG _ _ (st6.ex p _ (na hp1 (fun _ _ _ z => nomatch z)) hp1)
                have hq' := eG _ _ (st6.ex q0 _ (na hq1 (fun _ _ _ z => nomatch z)) hq1)
                exact ⟨p, [.str g.1, .ref q0, .str g.2.2], rfl, sq_of (eH _ _ hp'), rfl, _, _, rfl, _, _, rfl, _, _, rfl, rfl, rfl, en_tup (Rs := fun us G => ∃ t, us = [.str g.1, .ref t, .str g.2.2] ∧ G t = some (.tup (g.2.1.map V.str))) (fun us G G' h e => by
                    obtain ⟨t, z1, z2⟩ := h
                    exact ⟨t, z1, e _ _ z2⟩) ((ena_consV (ev_var rfl) (ena_cons (Rr := fun _ vs _ => vs = [.str g.2.2]) (Rw := fun us G => ∃ t, us = [.ref t, .str g.2.2] ∧ G t = some (.tup (g.2.1.map V.str))) (en_eu (eu_tupL (ev_var rfl) (sq_of hq'))) (fun v G e r => ena_ev (ea_cons (ev_var rfl) ea_nil)) fun v vs G G' r e r' => by
                    obtain ⟨t, ys, rfl, ht, rfl⟩ := r
                    exact ⟨t, by rw [r'], e _ _ ht⟩)).imp fun us G _ h => by
                    obtain ⟨r, rfl, t, rfl, ht⟩ := h
                    exact ⟨t, rfl, ht⟩) (fun us G h => by
                    obtain ⟨t, rfl, _⟩ := h
                    simp) H1 eH Q fun v G' H2 n r' => q v G' H2 n (by
                  obtain ⟨p2, ys, rfl, hp2, t, rfl, ht⟩ := r'
                  exact ⟨p2, g, rfl, er, t, hp2, ht⟩)⟩
            obtain ⟨tg, ys, rfl, htg, hyl, hy⟩ := r
            obtain ⟨tgs, rfl, htl2, htr2⟩ := refsOf1 (f := SgnT) (by rw [hyl, lenG]) hy
            have TG0 : TupsAt SgnT G2 tg signs := ⟨tgs, htg, htl2, htr2⟩
            have hA8 := n2.kp _ _ st6.at_
            have T2 := TG0.sgn (TSt.upd (fs' := putF "signs" (.ref tg) (putF "sorts" (.ref ts) fs4)) n2.st hA8)
            have T3 := T1'.row (TSt.upd (fs' := putF "signs" (.ref tg) (putF "sorts" (.ref ts) fs4)) n2.kp hA8)
            have stay2 : ∀ {p : Addr} {o : HO}, p ≠ a → H7 p = some o → (upd H8 a (.ins C dx (putF "signs" (.ref tg) (putF "sorts" (.ref ts) fs4)))) p = some o := fun {p o} hp ho => by
              rw [upd_ne hp]
              exact n2.kp _ _ ho
            have st8 : InitSt C a dx pc ps pa pr (putF "signs" (.ref tg) (putF "sorts" (.ref ts) fs4)) sorts sg H (upd H8 a (.ins C dx (putF "signs" (.ref tg) (putF "sorts" (.ref ts) fs4)))) :=
              ⟨(st6.ex.ex n2.kp).upd, upd_same, stay2 na1 st6.pc, stay2 na2 st6.ps, stay2 na3 st6.pa, stay2 na4 st6.pr, fun p hp => stay2 (fun z => by have := st6.tup p hp; rw [z, st6.at_] at this; cases this) (st6.tup p hp)⟩
            have l8 : (putF "signs" (.ref tg) (putF "sorts" (.ref ts) fs4)).length ≤ 6 := putF_len l7
            generalize (upd H8 a (.ins C dx (putF "signs" (.ref tg) (putF "sorts" (.ref ts) fs4)))) = H9 at T2 T3 st8
            obtain ⟨tas3, hts3, htl3, htr3⟩ := id T3
            obtain ⟨r0, er0⟩ : ∃ r, sorts[0]? = some r := ⟨_, List.getElem?_eq_getElem (by omega)⟩
            obtain ⟨p0, ep0⟩ : ∃ p, tas3[0]? = some p := ⟨_, List.getElem?_eq_getElem (by omega)⟩
            have hp0 := htr3 0 p0 r0 ep0 er0
            have lk1 : (putF "signs" (.ref tg) (putF "sorts" (.ref ts) fs4)).lookup ("sorts" : Str) = some (.ref ts) := by
              rw [lookup_putF, if_neg (by decide), lookup_putF, if_pos rfl]
            refine s_fldV (f := "said") (v := .str r0.1) S (ev_op (ev_op (ev_fld (f := "sorts") (v := .ref ts) (m := [("sorts", .ref ts)]) S (ev_var rfl) ⟨dx, _, st8.at_, fun m hm => by rw [List.mem_singleton.mp hm]; exact lk1⟩ List.mem_cons_self (by decide)) ev_c (rv_ixSq (.inr (st_of hts3)) (atI_nat (j := 0) (by rw [List.getElem?_map, ep0]; rfl)))) ev_c (rv_ixSq (.inr (st_of hp0)) (atI_nat (j := 0) rfl))) (ev_var rfl) st8.at_ (by decide) (by omega) fun Ha ea => ?_
            have hAa := ea _ _ st8.at_
            have stay3 : ∀ {p : Addr} {o : HO}, p ≠ a → H9 p = some o → (upd Ha a (.ins C dx (putF "said" (.str r0.1) (putF "signs" (.ref tg) (putF "sorts" (.ref ts) fs4))))) p = some o := fun {p o} hp ho => by
              rw [upd_ne hp]
              exact ea _ _ ho
            refine kn hnone _ (st8.ex.ex ea).upd ⟨pc, ps, pa, pr, ts, tg, sg, r0.1, ⟨dx, _, upd_same, fun m hm => ?_⟩, ⟨dx, _, upd_same, fun m hm => ?_⟩, stay3 na1 st8.pc, stay3 na2 st8.ps, stay3 na3 st8.pa, stay3 na4 st8.pr, hsg', fun p hp => stay3 (fun z => by have := st8.tup p hp; rw [z, st8.at_] at this; cases this) (st8.tup p hp), T3.row (TSt.upd ea hAa), T2.sgn (TSt.upd ea hAa), by rw [List.getElem?_map, er0]; rfl⟩
            · simp only [List.mem_cons, List.not_mem_nil, or_false] at hm
              have sh : ∀ {x : Str} {v : V} {l : List (Str × V)}, l.lookup x = some v → l.lookup ((x, v) : Str × V).1 = some ((x, v) : Str × V).2 := fun h => h
              rcases hm with rfl | rfl | rfl | rfl | rfl | rfl | rfl <;> refine sh ?_
              · rw [lookup_putF, if_neg (by decide), lookup_putF, if_neg (by decide), lookup_putF, if_neg (by decide)]; exact l1
              · rw [lookup_putF, if_neg (by decide), lookup_putF, if_neg (by decide), lookup_putF, if_neg (by decide)]; exact l2
              · rw [lookup_putF, if_neg (by decide), lookup_putF, if_neg (by decide), lookup_putF, if_neg (by decide)]; exact l3
              · rw [lookup_putF, if_neg (by decide), lookup_putF, if_neg (by decide), lookup_putF, if_neg (by decide)]; exact l4
              · rw [lookup_putF, if_neg (by decide), lookup_putF, if_neg (by decide), lookup_putF, if_pos rfl]
              · rw [lookup_putF, if_neg (by decide), lookup_putF, if_pos rfl]
              · rw [lookup_putF, if_pos rfl]
            · have no : ∀ m ∈ (["_add_sort", "_add_sign", "capital", "arguments", "result", "is_bare", "sort_of_word", "fault", "check"] : List Str), m ≠ "said" ∧ m ≠ "signs" ∧ m ≠ "sorts" := by decide
              obtain ⟨q1, q2, q3⟩ := no m hm
              rw [lookup_putF, if_neg q1, lookup_putF, if_neg q2, lookup_putF, if_neg q3]
              exact l5 m hm
end
end K01
-- KRvT
/-! list(reversed(x)), x a tuple -/
namespace KRvT
open PySem PySem.Spec PyProof.Rows L2 RT
theorem nolen_rt : typeLookup (.type "reversed") "__len__" = pure none := by
  rw [typeLookup_type, builtinLookup_eq_fast]
  kernel_rfl
theorem slot_rt_hint : Slot "reversed" "__length_hint__" "reversed.__length_hint__" := by
  refine .of (owner := "reversed") (n := "__length_hint__") ?_ (by decide +kernel) (by decide +kernel) (by decide +kernel) ?_ ?_
  · rw [typeLookup_type, builtinLookup_eq_fast]
    kernel_rfl
  · first
      | exact .inl (by decide +kernel)
      | exact .inr (by decide +kernel)
  · rw [isSubtype_type]
    kernel_rfl
theorem entry_rt_hint : entryFor table "reversed.__length_hint__" = some Builtin.«reversed.__length_hint__» := entryFor_of_tree (by kernel_rfl)
theorem args_rt_hint (v : Value) : argsOk "reversed.__length_hint__" ⟨[v], []⟩ := by
  unfold argsOk
  rw [signature?_of (id := "reversed.__length_hint__") (n := "__length_hint__".toList.reverse) (o := "reversed".toList.reverse) (by kernel_rfl) owner_rt]
  kernel_rfl
section
variable {prog : Program} {w : World} {A : Around} {E : Value → Shared → Prop} {s : Shared} {it t : Addr} {items : Array Value}
theorem hint_rt {Q : Bool → Shared → Prop} (hit : IsRt s.heap it t ((items.size : Int) - 1)) (ht : IsTup s.heap t items) (hz : items.size ≤ sizeLine) (hQ : ∀ b tk, Q b { s with toks := tk }) :
    wpAny (model prog w) A (Builtin.List.listLengthHint (.ref it)) Q E s := by
  obtain ⟨o, ho, hc, hd⟩ := id hit
  have hT := hit.typeIs
  rw [sizeLine_eq] at hz
  unfold Builtin.List.listLengthHint
  refine wpAny_bind (wpAny_specialOf hT nolen_rt ?_)
  show wpAny _ A (specialOf (Value.ref it) (Str.ofString "__length_hint__") >>= _) _ _ s
  refine wpAny_bind (wpAny_specialOf hT slot_rt_hint.lookup ?_)
  generalize hid : ("reversed.__length_hint__" : String) = nm
  wp_delta
  rw [show splitId nm = some ("reversed", "__length_hint__") from by subst hid; decide +kernel]
  subst hid
  refine wpAny_bind (wpAny_isInstance (b := true) hT (by rw [isSubtype_type]; kernel_rfl) ?_)
  refine wpAny_ite_split (fun z => absurd z (by decide)) (fun _ => ?_)
  refine wpAny_ite_split (fun z => absurd z (by decide +kernel)) (fun _ => ?_)
  refine wpAny_bind (wpAny_rule ?_)
  refine wpAny_bind (wpAny_of_eq (slot_rt_hint.bind _) ?_)
  refine wpAny_bind (wpAny_attempt (wpAny_call_entry slot_rt_hint hT entry_rt_hint ?_ (args_rt_hint _)))
  unfold Builtin.«reversed.__length_hint__»
  refine wpAny_bind (wpAny_of_eq (a := Value.ref it) rfl ?_)
  try dsimp only
  refine wpAny_bind (wpAny_field ho hd (x := .ref t) rfl ?_)
  try dsimp only
  rw [if_neg (by simp)]
  refine wpAny_bind (PyProof.Rows.len_tuple ht (by omega) ?_)
  refine wpAny_bind (m := asInt? _) (wpAny_pure ?_)
  try dsimp only
  refine wpAny_bind (wpAny_field (s := { s with toks := s.toks + 1 + 1 }) ho hd (x := rawInt ((items.size : Int) - 1)) rfl ?_)
  show wpAny _ _ (if (items.size : Int) < (items.size : Int) - 1 + 1 then _ else _) _ _ _
  rw [if_neg (by omega)]
  unfold retInt
  refine wpAny_bind (wpAny_mkInt ?_)
  refine wpAny_pure ⟨_, rfl, ?_⟩
  refine wpAny_bind (m := asInt? _) (wpAny_pure ?_)
  have en : (items.size : Int) - 1 + 1 = (items.size : Int) := by omega
  rw [en]
  have f1 : Builtin.List.listFitsIndex (items.size : Int) = true := by
    simp [Builtin.List.listFitsIndex]
    omega
  have f2 : Builtin.List.listTooLong ((items.size : Int).toNat) = false := by
    unfold Builtin.List.listTooLong
    rw [Int.toNat_natCast]
    exact decide_eq_false (fun z => absurd (Nat.lt_of_lt_of_le (by rw [sizeLine_eq] at z; exact z) hz) (Nat.lt_irrefl _))
  have f1' : ¬ (!Builtin.List.listFitsIndex (items.size : Int)) = true := by
    rw [f1]
    decide
  have f2' : ¬ Builtin.List.listTooLong ((items.size : Int).toNat) = true := by
    rw [f2]
    decide
  have f3' : ¬ (items.size : Int) < 0 := by omega
  dsimp only
  rw [if_neg f1', if_neg f3', if_neg f2']
  exact wpAny_pure (hQ _ _)
theorem walk_rt (hh : A.handled = none) (it t : Addr) (hne : t ≠ it) (items : Array Value) (hz : items.size ≤ sizeLine) :
    Walks prog w A it [it, t] [it] items.size (fun i v => items[items.size - 1 - i]? = some v) (fun i h => i ≤ items.size ∧ IsRt h it t ((items.size : Int) - 1 - (i : Int)) ∧ IsTup h t items) where
  sub := fun b hb => by
    rw [List.mem_singleton.mp hb]
    exact List.mem_cons_self
  frame := fun _ _ _ x hk => by
    obtain ⟨x1, x2, o, x3, x4⟩ := x
    exact ⟨x1, x2.at fun o e => hk it (by simp) o e, o, hk t (by simp) o x3, x4⟩
  item := fun i s Q E hi x hQ => by
    obtain ⟨x1, hit, ht⟩ := x
    have e : (items.size : Int) - 1 - (i : Int) = ((items.size - 1 - i : Nat) : Int) := by omega
    rw [e] at hit
    have hx : items[items.size - 1 - i]? = some (items[items.size - 1 - i]'(by omega)) := Array.getElem?_eq_getElem (by omega)
    refine next_rt_item hit ht hx hz fun h' hit' hs' => ?_
    have e2 : ((items.size - 1 - i : Nat) : Int) - 1 = (items.size : Int) - 1 - ((i + 1 : Nat) : Int) := by omega
    rw [e2] at hit'
    obtain ⟨ot, ht1, ht2⟩ := ht
    exact hQ _ h' (s.toks + 1) hx ⟨hi, hit', ot, (hs'.2 t hne).trans ht1, ht2⟩ fun b o hb eo => hs'.extBut b o (fun z => hb (by simp [z])) eo
  done := fun s Q E x hQ => by
    obtain ⟨x1, hit, ht⟩ := x
    have e : (items.size : Int) - 1 - (items.size : Int) = -1 := by omega
    rw [e] at hit
    exact next_rt_end hh hit fun h' he' => hQ h' s.toks fun b o hb eo => he' b o (fun z => hb (by simp [z])) eo
  self := fun _ _ _ _ x hQ => iter_rt x.2.1 hQ
theorem ext_rt {R : Result → Shared → Prop} (hh : A.handled = none) (hit : IsRt s.heap it t ((items.size : Int) - 1)) (ht : IsTup s.heap t items) (hne : t ≠ it) (hz : items.size ≤ sizeLine) (S : Addr) (res : Value) (c₀ : Nat) (hSi : S ≠ it) (hSt : S ≠ t)
    (hS : s.heap.get? S = some { cls := .type "list", data := .seq #[] c₀ })
    (hR : ∀ h' tk acc' c', (∀ b o, b ≠ S → b ≠ it → s.heap.get? b = some o → h'.get? b = some o) → h'.get? S = some { cls := .type "list", dict := none, data := .seq acc' c', slots := #[] } →
      ItemsOf (fun i v => items[items.size - 1 - i]? = some v) acc' items.size → R (.ok (.ret res)) { s with heap := h', toks := tk }) :
    wpAny (model prog w) A.in1 (Builtin.List.listExtendWith (.ref S) (.ref it) res)
      (fun fin s' => match fin with | .done f => R (.ok f) s' | .again c' => c'.quiet = true ∧ codeAny (model prog w) A c' R s') (fun e s' => R (.error e) s') s := by
  have W := (walk_rt (prog := prog) (w := w) (A := A.in1) hh it t hne items hz).toS
  have hSf : S ∉ [it, t] := by simp [hSi, hSt]
  have key : ∀ (h : Heap) (c₁ tk : Nat), (∀ b o, b ≠ S → s.heap.get? b = some o → h.get? b = some o) → h.get? S = some { cls := .type "list", data := .seq #[] c₁ } →
      codeAny (model prog w) A (.builtin "list.extend.loop" ⟨[.ref S, .ref it, res], []⟩) R { s with heap := h, toks := tk } := fun h c₁ tk hk hS1 => by
    have e0 : (items.size : Int) - 1 - ((0 : Nat) : Int) = (items.size : Int) - 1 := by omega
    obtain ⟨ot, ht1, ht2⟩ := ht
    refine codeAny_extend_loopS W hz S hSf res items.size 0 _ #[] c₁ rfl (Nat.zero_le _) ⟨Nat.zero_le _, by rw [e0]; exact hit.at fun o e => hk it o (Ne.symm hSi) e, ot, hk t ot (Ne.symm hSt) ht1, ht2⟩ hS1 (ItemsOf.nil _) fun s' acc' c' hm hS' hacc => ?_
    rw [Moved.eq_with hm]
    refine hR s'.heap s'.toks acc' c' (fun b o n1 n2 e => hm.heap b o (fun z => ?_) (hk b o n1 e)) hS' hacc
    rcases List.mem_cons.mp z with z | z
    · exact n1 z
    · exact n2 (List.mem_singleton.mp z)
  unfold Builtin.List.listExtendWith
  refine wpAny_bind (wpAny_typeOf hit.typeIs ?_)
  have g1 : Builtin.List.listSameRef (.ref S) (.ref it) = false := by simp [Builtin.List.listSameRef, hSi]
  have g2 : (Value.type "reversed" == Value.type "list") = false := by decide
  have g3 : (Value.type "reversed" == Value.type "tuple") = false := by decide
  simp only [g1, g2, g3, Bool.or_false, Bool.false_eq_true, if_false]
  refine wpAny_bind (iter_rt hit ?_)
  refine wpAny_bind (wpAny_holding (hint_rt hit ht hz fun room tk => ?_))
  refine wpAny_ite_split (fun _ => ?_) (fun _ => wpAny_pure ⟨plainId_quiet F.plain_extend_loop _, key _ c₀ _ (fun b o _ e => e) hS⟩)
  refine wpAny_bind (wpAny_rule ?_)
  refine wpAny_bind ?_
  show wpAny _ _ (updateSeq S (·.push Value.none) >>= fun _ => updateSeq S (·.pop)) _ _ _
  refine wpAny_bind (wpAny_updateSeq hS rfl ?_)
  have hS2 := Heap.get?_update_self (Obj.mapSeq (·.push Value.none)) hS rfl
  refine wpAny_updateSeq (hz := by seq_fits) hS2 rfl ?_
  have hS3 := Heap.get?_update_self (Obj.mapSeq (·.pop)) hS2 rfl
  exact wpAny_pure ⟨plainId_quiet F.plain_extend_loop _, key _ _ _ (fun b o n1 e => (Heap.get?_update_other _ _ (Ne.symm n1)).trans ((Heap.get?_update_other _ _ (Ne.symm n1)).trans e)) hS3⟩
theorem call_list_rt {Q : Value → Shared → Prop} (hh : A.handled = none) (hit : IsRt s.heap it t ((items.size : Int) - 1)) (ht : IsTup s.heap t items) (hne : t ≠ it) (hz : items.size ≤ sizeLine)
    (hQ : ∀ h' tk acc' c', (∀ b o, b ≠ it → s.heap.get? b = some o → h'.get? b = some o) → h'.get? s.heap.objs.size = some { cls := .type "list", dict := none, data := .seq acc' c', slots := #[] } →
      ItemsOf (fun i v => items[items.size - 1 - i]? = some v) acc' items.size → Q (.ref s.heap.objs.size) { s with heap := h', toks := tk }) :
    wpAny (model prog w) A (call (.type "list") [.ref it]) Q E s := by
  refine callType_codes (Q₁ := fun ob s1 => ob = .ref s.heap.objs.size ∧ s1 = { s with heap := s.heap.push { cls := .type "list", data := .seq #[] } }) F.called_list (F.typeCall_list_1 _) F.entry_list_init (code_list_new _ ⟨rfl, rfl⟩) fun ob s1 h1 => ?_
  obtain ⟨rfl, rfl⟩ := h1
  obtain ⟨oi, hoi, oi2⟩ := id hit
  obtain ⟨ot, hot, ot2⟩ := id ht
  have nSi : s.heap.objs.size ≠ it := Nat.ne_of_gt (Heap.lt_size hoi)
  have nSt : s.heap.objs.size ≠ t := Nat.ne_of_gt (Heap.lt_size hot)
  have hS : (s.heap.push { cls := .type "list", data := .seq #[] }).get? s.heap.objs.size = some { cls := .type "list", data := .seq #[] } := Heap.get?_push_size _ rfl
  refine ⟨⟨_, hS, rfl⟩, F.args_list_init_2 _ _, ?_⟩
  show wpAny _ _ (do let old ← Builtin.List.listItems (.ref s.heap.objs.size); Builtin.List.listUpdate (.ref s.heap.objs.size) (fun _ => #[]); letGo old.toList.reverse; Builtin.List.listExtendWith (.ref s.heap.objs.size) (.ref it) .none) _ _ _
  refine wpAny_bind ?_
  unfold Builtin.List.listItems
  refine wpAny_bind (wpAny_seqItems hS rfl (wpAny_pure ?_))
  show wpAny _ _ (updateSeq s.heap.objs.size (fun _ => #[]) >>= fun _ => letGo (#[] : Array Value).toList.reverse >>= fun _ => Builtin.List.listExtendWith (.ref s.heap.objs.size) (.ref it) .none) _ _ _
  refine wpAny_bind (wpAny_updateSeq hS rfl ?_)
  have hS2 := Heap.get?_update_self (Obj.mapSeq (fun _ => (#[] : Array Value))) hS rfl
  have oth : ∀ b o, b ≠ s.heap.objs.size → s.heap.get? b = some o → ((s.heap.push { cls := .type "list", data := .seq #[] }).update s.heap.objs.size (Obj.mapSeq (fun _ => (#[] : Array Value)))).get? b = some o :=
    fun b o hb e => (Heap.get?_update_other _ _ (Ne.symm hb)).trans (Heap.get?_push_of_some _ e)
  refine wpAny_bind (wpAny_letGo ?_)
  refine ext_rt (A := A.in1) hh (hit.at fun o e => oth it o (Ne.symm nSi) e) ⟨ot, oth t ot (Ne.symm nSt) hot, ot2⟩ hne hz _ .none _ nSi nSt hS2 fun h' tk acc' c' hk hS' hacc => ?_
  exact ⟨rfl, hQ h' tk acc' c' (fun b o n2 e => hk b o (Nat.ne_of_lt (Heap.lt_size e)) n2 (oth b o (Nat.ne_of_lt (Heap.lt_size e)) e)) hS' hacc⟩
end
/-- list(reversed(e)), e a tuple: a new list -/
def tLstRev (K : PySem.W.Frag) (te : TE) : TE := fun σ H Q => te σ H fun v H1 => ∃ (a : Addr) (xs : List V), v = .ref a ∧ SqT K H1 a xs ∧ ∀ q, H1 q = none → Q (.ref q) (upd H1 q (.lst xs.reverse))
theorem pe_lstRev {X : Cx} {e : Expr} {te : TE} {p p2 pos pos2 : Pos} (hc : X.calm = true) (hg : Gl X "list") (hm : X.mg "list" = none) (hg2 : Gl X "reversed") (hm2 : X.mg "reversed" = none) (he : PE X e te)
    (hs : starEach [e] X.env = (false, eval e X.env) :: starEach [] X.env := by rfl)
    (hs2 : starEach [.Call (.Name "reversed" p2) [e] [] pos2] X.env = (false, eval (.Call (.Name "reversed" p2) [e] [] pos2) X.env) :: starEach [] X.env := by rfl) :
    PE X (.Call (.Name "list" p) [.Call (.Name "reversed" p2) [e] [] pos2] [] pos) (tLstRev X.K te) := by
  refine ⟨fun pins s σ H Q I h => ?_⟩
  refine Call_ (ld_blt I hg hm (by decide +kernel : bootBuiltins "list" = some (.type "list")) (PyProof.Rows.callWith_type1 (args_cons (Call_ (ld_blt I hg2 hm2 PyProof.Rows.boot_reversed (PyProof.Rows.callWith_type1 (args_cons (thn (he.run pins s σ H _ I h) fun u s1 ⟨v, H1, I1, r1, q1⟩ => args_nil ?_) hs) hs rfl))) hs2) hs2 rfl))
  obtain ⟨a, xs, rfl, hq, q⟩ := q1
  obtain rfl : u = Value.ref a := r1
  obtain ⟨its, rv, p', hz⟩ := I1.tuple hq
  have hn : its.toArray.size ≤ sizeLine := by
    rw [List.size_toArray, ← rv.length]
    exact hz
  have l63 := line63
  refine call_reversed_tup p' (fun A E Q k => PyProof.Rows.len_tuple p' (by omega) k) (args_nil ?_)
  have k0 : ∀ b o, s1.heap.get? b = some o → (s1.heap.push (rtObj a ((its.toArray.size : Int) - 1))).get? b = some o := fun b o e => Heap.get?_push_of_some _ e
  obtain ⟨ot, hot, ot2⟩ := id p'
  have hne : a ≠ s1.heap.objs.size := Nat.ne_of_lt (Heap.lt_size hot)
  refine call_list_rt (s := { s1 with heap := s1.heap.push (rtObj a ((its.toArray.size : Int) - 1)), toks := s1.toks + 1 + 1 }) (I1.ok.hd hc) ⟨_, Heap.get?_push_size _ rfl, rfl, rfl⟩ ⟨ot, k0 a ot hot, ot2⟩ hne hn fun h' tk acc c' hk hS hi => ?_
  have es : (s1.heap.push (rtObj a ((its.toArray.size : Int) - 1))).objs.size = s1.heap.objs.size + 1 := Array.size_push _
  refine ⟨.ref (s1.heap.push (rtObj a ((its.toArray.size : Int) - 1))).objs.size, upd H1 (s1.heap.push (rtObj a ((its.toArray.size : Int) - 1))).objs.size (.lst xs.reverse), I1.laid (t' := tk) (fun c o e => hk c o (Nat.ne_of_lt (Heap.lt_size e)) (k0 c o e)) (by rw [es]; exact Nat.le_succ _)
    (show ObjOk X.prog X.w _ _ _ (.lst xs.reverse) from ⟨by rw [List.length_reverse]; exact hz, acc.toList, c', vals_rev rv hi, by rw [Array.toArray_toList]; exact hS⟩), rfl, q _ (I1.hok.fresh (by rw [es]; exact Nat.le_succ _))⟩
open Evl in
theorem el_lstRev {K : PySem.W.Frag} {te : TE} {σ : L2.St} {H : Hp} {a : Addr} {xs : List V} (h : Ev te σ H (.ref a)) (hx : SqT K H a xs) : EvL (tLstRev K te) σ H xs.reverse := fun H1 e Q q =>
  h H1 e _ fun H2 e2 => ⟨a, xs, rfl, ex_t (e.trans e2) hx, fun p hp => q p _ (fresh_back e2 hp) (e2.trans (Ex.new hp)) upd_same⟩
end KRvT
-- E11
namespace K01
open PySem PySem.Spec PyProof.Rows L2 Evl KEv TL KDd KSq KSame KTxt KHot KSup KNew
/-! what a signature tells: capital, arguments, result, is_bare -/
def spLook (ec : EK → Addr) (C : Addr) (fld : Str) : Sp := fun vs H Q E => ∃ (a : Addr) (x : Str) (d : Addr) (kvs : List (Key × V)), vs = [.ref a, .str x] ∧ AtI C H a [(fld, .ref d)] ∧ H d = some (.dK kvs) ∧ (valV kvs (Sum.inr x) = none → RaisesE ec .unk x H E) ∧ ∀ v, valV kvs (Sum.inr x) = some v → RetV v H Q
def spBare (ec : EK → Addr) (C : Addr) : Sp := fun vs H Q E => ∃ (a : Addr) (x : Str) (pc pr : Addr) (sorts : List Row) (sg : List (Sgn × Addr)), vs = [.ref a, .str x] ∧ AtI C H a [("_capitals", .ref pc), ("_results", .ref pr)] ∧ H pc = some (.dK (capK sorts)) ∧ H pr = some (.dK (resK sg)) ∧ (sg.map fun p => p.1.1).Nodup ∧ sg.length ≤ 100 ∧ (decide (x ∈ sorts.map (·.1)) = false → RaisesE ec .unk x H E) ∧ (decide (x ∈ sorts.map (·.1)) = true → RetV (.bl (!(sg.any fun p => decide (p.1.2.2 = x)))) H Q)
theorem unlock_ex {H H' : Hp} {d : Addr} {o : Obj} {u : HO} (e : Ex (upd H d (.frz o u)) H') (h : H d = some u) : Ex H (upd H' d u) := fun b v hb => by
  by_cases z : b = d
  · rw [z] at hb ⊢
    rw [upd_same, ← h, hb]
  · rw [upd_ne z]
    exact e _ _ (by rw [upd_ne z]; exact hb)
theorem dkv_no {α : Type} {k : α → Str} {v : α → V} {l : List α} {x : Str} (h : x ∉ l.map k) : valV (dkv k v l) (Sum.inr x) = none := by
  have := dkv_some k v x l
  rw [decide_eq_false h] at this
  cases e : valV (dkv k v l) (Sum.inr x) with
  | none => rfl
  | some u => rw [e] at this; cases this
theorem dkv_at {α : Type} {k : α → Str} {v : α → V} : ∀ {l : List α} {r : α}, (l.map k).Nodup → r ∈ l → valV (dkv k v l) (Sum.inr (k r)) = some (v r)
  | s :: l, r, hn, hr => by
    rw [List.map_cons, List.nodup_cons] at hn
    rcases List.mem_cons.mp hr with rfl | hr
    · exact valV_pos (p := ((Sum.inr (k r) : Key), v r)) rfl
    · have ne : k s ≠ k r := fun z => hn.1 (by rw [z]; exact List.mem_map.mpr ⟨r, hr, rfl⟩)
      exact (valV_neg (p := ((Sum.inr (k s) : Key), v s)) (fun z => ne (Sum.inr.inj z))).trans (dkv_at hn.2 hr)
/-- for k in a locked dict -/
theorem s_forKeys {td : TE} {tu : TS} {D : Ends} {σ : L2.St} {H : Hp} {d : Addr} {od : Obj} {kvs : List (Key × V)} {j : Nat} (h : Ev td σ H (.ref d)) (hd : H d = some (.frz od (.dK kvs))) (Pv : Nat → L2.St → Hp → Prop) (h0 : ∀ H1, Ex H H1 → Pv 0 σ H1) (hp : ∀ i σ' H', Pv i σ' H' → Ex H H')
    (hs : ∀ i k v σ' H', kvs[i]? = some (k, v) → Pv i σ' H' → tu { D with nx := Pv (i + 1), ct := Pv (i + 1), bk := D.nx } (σ'.set j (some (kV k))) H') (he : ∀ σ' H', Pv kvs.length σ' H' → D.nx σ' H') : tFor (iKeys td) (gName j) tu D σ H :=
  h H (Ex.refl H) _ fun H1 e1 => ⟨d, od, rfl, .inl ⟨kvs, e1 _ _ hd, for_it walk_keys Pv (h0 H1 e1) (fun i σ' H' _ p => hp i σ' H' p _ _ hd) (fun i x σ' H2 H3 _ p y => by
    obtain ⟨rfl, k, v, hk, rfl⟩ := y
    exact hs i k v σ' _ hk p) he⟩⟩
section
variable {P : Program} {w : World} {K : PySem.W.Frag} {mg : Str → Option Value} {base : Heap} {ec fi : EK → Addr} {C : Addr}
theorem scCapital : FnScope ["self", "sort"] ["self", "sort"] (defScope (sSig 3)) := ⟨rfl, rfl, rfl, by decide +kernel, rfl, by decide +kernel, by decide +kernel⟩
theorem ok_capital {f : Addr} {fd : FuncData} (F : Fun K "capital" "Signature.capital" (sSig 3) f fd) (S : SigC K C) (E0 : Errs P K mg ec fi) : FnOk P w K mg base (L2N.CX P w) 1 f fd ["self", "sort"] (spLook ec C "_capitals") := by
  refine okXN F scCapital (fun vs H Q E h => ?_) (fun cdv A outer s H vs Q E hr h => ?_)
  · obtain ⟨a, x, d, kvs, rfl, _⟩ := h
    rfl
  · obtain ⟨a, x, d, kvs, rfl, hA, hd, kf, kn⟩ := h
    have hu := hu_of hr
    have tk := L2N.takes_of (X := cxOf (L2N.CX P w) P w K mg base ["self", "sort"] "Signature.capital" (defScope (sSig 3)) f cdv A outer s H E) rfl rfl rfl rfl
    refine ⟨_, pss_cons (ps_if (pt_cmp (pc_dnotin hu (pv 1) (pe_fld (pv 0) (by rfl)))) (pss_one (L2N.ps_raise rfl tk (pmk_sup (x := "UnknownName") (E0.t .unk) (by decide) hr (pa_cons (pv 1) pa_nil) (by rfl)))) pss_nil)
      (pss_one (ps_ret (pe_dget hu (pe_fld (pv 0) (by rfl)) (pv 1) (fun _ _ => rfl)))), ?_⟩
    cases b : valV kvs (Sum.inr x) with
    | none => exact q_when (b := true) (et_is (et_test (ev_dnotin (k := Sum.inr x) (ev_var rfl) (ev_fld S (ev_var rfl) hA (f := "_capitals") (v := .ref d) List.mem_cons_self (by decide)) (.inl hd))) (by rw [b]; rfl)) (fun _ H1 e1 => s_raise (ev_var rfl) rfl ((kf b).mono e1)) (fun z => by cases z)
    | some v =>
      refine q_when (b := false) (et_is (et_test (ev_dnotin (k := Sum.inr x) (ev_var rfl) (ev_fld S (ev_var rfl) hA (f := "_capitals") (v := .ref d) List.mem_cons_self (by decide)) (.inl hd))) (by rw [b]; rfl)) (fun z => by cases z) (fun _ H1 e1 => ?_)
      exact s_ret (ev_dget (k := Sum.inr x) (ev_fld S (ev_var rfl) (hA.ex e1) (f := "_capitals") (v := .ref d) List.mem_cons_self (by decide)) (ev_var rfl) (e1 _ _ hd) b) fun H2 e2 => kn v b H2 (e1.trans e2)
theorem scArguments : FnScope ["self", "sign"] ["self", "sign"] (defScope (sSig 4)) := ⟨rfl, rfl, rfl, by decide +kernel, rfl, by decide +kernel, by decide +kernel⟩
theorem ok_arguments {f : Addr} {fd : FuncData} (F : Fun K "arguments" "Signature.arguments" (sSig 4) f fd) (S : SigC K C) (E0 : Errs P K mg ec fi) : FnOk P w K mg base (L2N.CX P w) 1 f fd ["self", "sign"] (spLook ec C "_arguments") := by
  refine okXN F scArguments (fun vs H Q E h => ?_) (fun cdv A outer s H vs Q E hr h => ?_)
  · obtain ⟨a, x, d, kvs, rfl, _⟩ := h
    rfl
  · obtain ⟨a, x, d, kvs, rfl, hA, hd, kf, kn⟩ := h
    have hu := hu_of hr
    have tk := L2N.takes_of (X := cxOf (L2N.CX P w) P w K mg base ["self", "sign"] "Signature.arguments" (defScope (sSig 4)) f cdv A outer s H E) rfl rfl rfl rfl
    refine ⟨_, pss_cons (ps_if (pt_cmp (pc_dnotin hu (pv 1) (pe_fld (pv 0) (by rfl)))) (pss_one (L2N.ps_raise rfl tk (pmk_sup (x := "UnknownName") (E0.t .unk) (by decide) hr (pa_cons (pv 1) pa_nil) (by rfl)))) pss_nil)
      (pss_one (ps_ret (pe_dget hu (pe_fld (pv 0) (by rfl)) (pv 1) (fun _ _ => rfl)))), ?_⟩
    cases b : valV kvs (Sum.inr x) with
    | none => exact q_when (b := true) (et_is (et_test (ev_dnotin (k := Sum.inr x) (ev_var rfl) (ev_fld S (ev_var rfl) hA (f := "_arguments") (v := .ref d) List.mem_cons_self (by decide)) (.inl hd))) (by rw [b]; rfl)) (fun _ H1 e1 => s_raise (ev_var rfl) rfl ((kf b).mono e1)) (fun z => by cases z)
    | some v =>
      refine q_when (b := false) (et_is (et_test (ev_dnotin (k := Sum.inr x) (ev_var rfl) (ev_fld S (ev_var rfl) hA (f := "_arguments") (v := .ref d) List.mem_cons_self (by decide)) (.inl hd))) (by rw [b]; rfl)) (fun z => by cases z) (fun _ H1 e1 => ?_)
      exact s_ret (ev_dget (k := Sum.inr x) (ev_fld S (ev_var rfl) (hA.ex e1) (f := "_arguments") (v := .ref d) List.mem_cons_self (by decide)) (ev_var rfl) (e1 _ _ hd) b) fun H2 e2 => kn v b H2 (e1.trans e2)
theorem scResult : FnScope ["self", "sign"] ["self", "sign"] (defScope (sSig 5)) := ⟨rfl, rfl, rfl, by decide +kernel, rfl, by decide +kernel, by decide +kernel⟩
theorem ok_result {f : Addr} {fd : FuncData} (F : Fun K "result" "Signature.result" (sSig 5) f fd) (S : SigC K C) (E0 : Errs P K mg ec fi) : FnOk P w K mg base (L2N.CX P w) 1 f fd ["self", "sign"] (spLook ec C "_results") := by
  refine okXN F scResult (fun vs H Q E h => ?_) (fun cdv A outer s H vs Q E hr h => ?_)
  · obtain ⟨a, x, d, kvs, rfl, _⟩ := h
    rfl
  · obtain ⟨a, x, d, kvs, rfl, hA, hd, kf, kn⟩ := h
    have hu := hu_of hr
    have tk := L2N.takes_of (X := cxOf (L2N.CX P w) P w K mg base ["self", "sign"] "Signature.result" (defScope (sSig 5)) f cdv A outer s H E) rfl rfl rfl rfl
    refine ⟨_, pss_cons (ps_if (pt_cmp (pc_dnotin hu (pv 1) (pe_fld (pv 0) (by rfl)))) (pss_one (L2N.ps_raise rfl tk (pmk_sup (x := "UnknownName") (E0.t .unk) (by decide) hr (pa_cons (pv 1) pa_nil) (by rfl)))) pss_nil)
      (pss_one (ps_ret (pe_dget hu (pe_fld (pv 0) (by rfl)) (pv 1) (fun _ _ => rfl)))), ?_⟩
    cases b : valV kvs (Sum.inr x) with
    | none => exact q_when (b := true) (et_is (et_test (ev_dnotin (k := Sum.inr x) (ev_var rfl) (ev_fld S (ev_var rfl) hA (f := "_results") (v := .ref d) List.mem_cons_self (by decide)) (.inl hd))) (by rw [b]; rfl)) (fun _ H1 e1 => s_raise (ev_var rfl) rfl ((kf b).mono e1)) (fun z => by cases z)
    | some v =>
      refine q_when (b := false) (et_is (et_test (ev_dnotin (k := Sum.inr x) (ev_var rfl) (ev_fld S (ev_var rfl) hA (f := "_results") (v := .ref d) List.mem_cons_self (by decide)) (.inl hd))) (by rw [b]; rfl)) (fun z => by cases z) (fun _ H1 e1 => ?_)
      exact s_ret (ev_dget (k := Sum.inr x) (ev_fld S (ev_var rfl) (hA.ex e1) (f := "_results") (v := .ref d) List.mem_cons_self (by decide)) (ev_var rfl) (e1 _ _ hd) b) fun H2 e2 => kn v b H2 (e1.trans e2)
theorem scBare : FnScope ["self", "sort", "sign"] ["self", "sort"] (defScope (sSig 6)) := ⟨rfl, rfl, rfl, by decide +kernel, rfl, by decide +kernel, by decide +kernel⟩
theorem ok_bare {f : Addr} {fd : FuncData} (F : Fun K "is_bare" "Signature.is_bare" (sSig 6) f fd) (S : SigC K C) (E0 : Errs P K mg ec fi) : FnOk P w K mg base (L2N.CX P w) 1 f fd ["self", "sort"] (spBare ec C) := by
  refine okXN F scBare (fun vs H Q E h => ?_) (fun cdv A outer s H vs Q E hr h => ?_)
  · obtain ⟨a, x, pc, pr, sorts, sg, rfl, _⟩ := h
    rfl
  · obtain ⟨a, x, pc, pr, sorts, sg, rfl, hA, hpc, hpr, hnd, hl, kf, kn⟩ := h
    have hu := hu_of hr
    have tk := L2N.takes_of (X := cxOf (L2N.CX P w) P w K mg base ["self", "sort", "sign"] "Signature.is_bare" (defScope (sSig 6)) f cdv A outer s H E) rfl rfl rfl rfl
    refine ⟨_, pss_cons (ps_if (pt_cmp (pc_dnotin hu (pv 1) (pe_fld (pv 0) (by rfl)))) (pss_one (L2N.ps_raise rfl tk (pmk_sup (x := "UnknownName") (E0.t .unk) (by decide) hr (pa_cons (pv 1) pa_nil) (by rfl)))) pss_nil)
      (pss_cons (ps_lock (ps_for PassesOwn.leaving rfl (pi_keys (pe_fld (pv 0) (by rfl))) (pg_name (i := 2) scBare.nd rfl (.inl rfl))
        (pss_one (ps_if (pt_cmpR op_eq (pe_dget hu (pe_fld (pv 0) (by rfl)) (pv 2) (fun _ _ => rfl)) (pv 1) (nomark _)) (pss_one (ps_ret pe_bl)) pss_nil)))) (pss_one (ps_ret pe_bl))), ?_⟩
    cases b : decide (x ∈ sorts.map (·.1)) with
    | false => exact q_when (b := true) (et_is (et_test (ev_dnotin (k := Sum.inr x) (ev_var rfl) (ev_fld S (ev_var rfl) hA (f := "_capitals") (v := .ref pc) List.mem_cons_self (by decide)) (.inl hpc))) (by rw [dkv_some, b]; rfl)) (fun _ H1 e1 => s_raise (ev_var rfl) rfl ((kf b).mono e1)) (fun z => by cases z)
    | true =>
      refine q_when (b := false) (et_is (et_test (ev_dnotin (k := Sum.inr x) (ev_var rfl) (ev_fld S (ev_var rfl) hA (f := "_capitals") (v := .ref pc) List.mem_cons_self (by decide)) (.inl hpc))) (by rw [dkv_some, b]; rfl)) (fun z => by cases z) (fun _ H1 e1 => ?_)
      have hpr1 := e1 _ _ hpr
      refine ⟨pr, _, hpr1, trivial, fun od => ?_⟩
      have hA1 : AtI C (L2.upd H1 pr (.frz od (.dK (resK sg)))) a [("_capitals", .ref pc), ("_results", .ref pr)] := (hA.ex e1).upd hpr1 (fun _ _ _ z => nomatch z)
      refine s_forKeys (od := od) (kvs := resK sg) (ev_fld S (ev_var rfl) hA1 (f := "_results") (v := .ref pr) (List.mem_cons_of_mem _ List.mem_cons_self) (by decide)) upd_same (fun i σ' H' => (∃ u, σ' = [some (.ref a), some (.str x), u]) ∧ Ex (L2.upd H1 pr (.frz od (.dK (resK sg)))) H' ∧ ∀ p ∈ sg.take i, decide (p.1.2.2 = x) = false) (fun H2 e2 => ⟨⟨_, rfl⟩, e2, fun p hp => by simp at hp⟩) (fun i σ' H' p => p.2.1) (fun i k v σ' H3 hk p => ?_) (fun σ' H' p => ?_)
      · obtain ⟨⟨u, rfl⟩, e3, hall⟩ := p
        have hk : (sg.map fun p => ((Sum.inr p.1.1 : Key), V.str p.1.2.2))[i]? = some (k, v) := hk
        rw [List.getElem?_map] at hk
        cases eg : sg[i]? with
        | none => rw [eg] at hk; cases hk
        | some r =>
          rw [eg] at hk
          have hk := Option.some.inj hk
          obtain rfl : Sum.inr r.1.1 = k := congrArg Prod.fst hk
          have hval := dkv_at (k := fun p : Sgn × Addr => p.1.1) (v := fun p => V.str p.1.2.2) hnd (List.mem_of_getElem? eg)
          have ht : EvT (tTest (tOp rEq (tDGet (tFld K (tVar 0) "_results") (tVar 2)) (tVar 1))) [some (.ref a), some (.str x), some (.str r.1.1)] H3 (decide (r.1.2.2 = x)) :=
            et_is (et_test (ev_op (ev_dgetR (k := Sum.inr r.1.1) (ev_fld S (ev_var rfl) (hA1.ex e3) (f := "_results") (v := .ref pr) (List.mem_cons_of_mem _ List.mem_cons_self) (by decide)) (ev_var rfl) (.inr ⟨od, e3 _ _ upd_same⟩) hval) (ev_var rfl) (rv_eq rfl))) (by simp)
          cases b2 : decide (r.1.2.2 = x) with
          | true =>
            refine s_when (b := true) (et_is ht b2) (fun _ H5 e5 => s_ret ev_c fun H6 e6 => ⟨(e3.trans (e5.trans e6)) _ _ upd_same, ?_⟩) (fun z => by cases z)
            have hany : (sg.any fun p => decide (p.1.2.2 = x)) = true := List.any_eq_true.mpr ⟨r, List.mem_of_getElem? eg, b2⟩
            have := kn b
            rw [hany] at this
            exact this _ (e1.trans (unlock_ex (e3.trans (e5.trans e6)) hpr1))
          | false =>
            refine s_when (b := false) (et_is ht b2) (fun z => by cases z) (fun _ H5 e5 => ⟨⟨_, rfl⟩, e3.trans e5, fun p hp => ?_⟩)
            rw [take_at eg] at hp
            rcases List.mem_append.mp hp with z | z
            · exact hall p z
            · rw [List.mem_singleton.mp z]
              exact b2
      · obtain ⟨⟨u, rfl⟩, e3, hall⟩ := p
        refine ⟨e3 _ _ upd_same, ?_⟩
        show tRet (tC (V.bl true)) { nx := fun _ H9 => Q .non H9, rt := Q } [some (.ref a), some (.str x), u] (L2.upd H' pr (.dK (resK sg)))
        refine s_ret ev_c fun H6 e6 => ?_
        have hany : (sg.any fun p => decide (p.1.2.2 = x)) = false := by
          rw [List.any_eq_false]
          intro p hp
          rw [hall p (by rw [List.take_of_length_le (by rw [dkv_len]; omega)]; exact hp)]
          decide
        have := kn b
        rw [hany] at this
        exact this _ ((e1.trans (unlock_ex e3 hpr1)).trans e6)
end
end K01
-- E12
namespace K01
open PySem PySem.Spec PyProof.Rows L2 Evl KEv TL KDd KSq KSame KTxt KHot KSup KNew
/-! sort_of_word -/
def oV : Option Str → V
  | some x => .str x
  | none => .non
/-- the sort of a sign or of a letter -/
def wordSort (sorts : List Row) (signs : List Sgn) (x : Str) (n : Int) : Option Str := match signs.find? fun g => decide (g.1 = x) with
  | some g => some g.2.2
  | none => if letterB (tl x) n = true then (sorts.find? fun r => decide (r.2 = ⟨#[(tl x).headD 0]⟩)).map (·.1) else none
theorem dkv_val {α : Type} {k : α → Str} {v : α → V} {x : Str} : ∀ {l : List α}, valV (dkv k v l) (Sum.inr x) = (l.find? fun r => decide (k r = x)).map v
  | [] => rfl
  | r :: l => by
    by_cases e : k r = x
    · rw [List.find?_cons, decide_eq_true e]
      exact valV_pos (p := ((Sum.inr (k r) : Key), v r)) (by rw [e])
    · rw [List.find?_cons, decide_eq_false e]
      exact (valV_neg (p := ((Sum.inr (k r) : Key), v r)) (fun z => e (Sum.inr.inj z))).trans dkv_val
theorem find_sg {sg : List (Sgn × Addr)} {x : Str} : (sg.map (·.1)).find? (fun g => decide (g.1 = x)) = (sg.find? fun p => decide (p.1.1 = x)).map (·.1) := by
  induction sg with
  | nil => rfl
  | cons p l ih =>
    rw [List.map_cons, List.find?_cons, List.find?_cons]
    cases decide (p.1.1 = x) with
    | true => rfl
    | false => exact ih
theorem ev_get1 {σ : L2.St} {H : Hp} {td ty : TE} {a : Addr} {kvs : List (Key × V)} {k : Key} (hd : Ev td σ H (.ref a)) (hk : Ev ty σ H (kV k)) (h : H a = some (.dK kvs)) : Ev (tDGet1 td ty) σ H ((valV kvs k).getD .non) := fun H1 e Q q =>
  hd H1 e _ fun H2 e2 => ⟨a, rfl, .inl ⟨kvs, .inl (e2 _ _ (e _ _ h))⟩, hk H2 (e.trans e2) _ fun H3 e3 => ⟨_, DGet.k (e3 _ _ (e2 _ _ (e _ _ h))), q H3 (e2.trans e3)⟩⟩
def spSortW (C : Addr) : Sp := fun vs H Q _ => ∃ (a : Addr) (x : Str) (n : Int) (ps pr : Addr) (sorts : List Row) (sg : List (Sgn × Addr)), vs = [.ref a, .str x, .int n] ∧ AtI C H a [("_sorts", .ref ps), ("_results", .ref pr)] ∧ H ps = some (.dK (sorK sorts)) ∧ H pr = some (.dK (resK sg)) ∧ x.length ≤ 100000 ∧ RetV (oV (wordSort sorts (sg.map (·.1)) x n)) H Q
abbrev SowD (K : PySem.W.Frag) (f : Addr) (fd : FuncData) : Prop := FunD K "sort_of_word" "Signature.sort_of_word" (defArgs (sSig 7)) (defBody (sSig 7)) (defScope (sSig 7)) [.int 9] [] f fd
abbrev LetD (K : PySem.W.Frag) (f : Addr) (fd : FuncData) : Prop := FunD K "is_letter" "is_letter" (defArgs (topS 13)) (defBody (topS 13)) (defScope (topS 13)) [.int 9] [] f fd
theorem scSow : FnScope ["self", "word", "digits"] ["self", "word", "digits"] (defScope (sSig 7)) := ⟨rfl, rfl, rfl, by decide +kernel, rfl, by decide +kernel, by decide +kernel⟩
theorem letter_head {l : List Nat} {n : Int} (h : letterB l n = true) : ∃ c r, l = c :: r := by
  cases l with
  | nil => simp [letterB] at h
  | cons c r => exact ⟨c, r, rfl⟩
section
variable {P : Program} {w : World} {K : PySem.W.Frag} {mg : Str → Option Value} {base : Heap} {ec fi : EK → Addr} {C : Addr}
theorem let_b2 {f : Addr} {fd : FuncData} (F : LetD K f fd) : Binds K fd ["text", "digits"] [] := by
  obtain ⟨ds, h1, h2⟩ := F.binds1 (ps := ["text", "digits"]) 2 1 (by simp) rfl (fun T kV doc pm an cdv ct us its l1 l2 => match us, its, l1, l2 with | [_, _], [_], _, _ => ⟨_, rfl, rfl⟩)
  cases h1
  exact h2
structure LetAt (P : Program) (w : World) (K : PySem.W.Frag) (mg : Str → Option Value) (base : Heap) (f : Addr) (fd : FuncData) : Prop where
  F : FnOk P w K mg base CX0 1 f fd ["text", "digits"] spIsLetter
  g : mg "is_letter" = some (.ref f)
  kp : PySem.W.keepIn K (.ref f) = true
  D : LetD K f fd
theorem ok_sow {f fl : Addr} {fd fdl : FuncData} (F : SowD K f fd) (S : SigC K C) (L : LetAt P w K mg base fl fdl) : FnOk P w K mg base CX0 2 f fd ["self", "word", "digits"] (spSortW C) := by
  refine F.ok scSow (fun vs H Q E h => ?_) (fun cdv A outer s H vs Q E hr h => ?_)
  · obtain ⟨a, x, n, ps, pr, sorts, sg, rfl, _⟩ := h
    rfl
  · obtain ⟨a, x, n, ps, pr, sorts, sg, rfl, hA, hps, hpr, hx, k⟩ := h
    have hu := hu_of hr
    refine ⟨_, PSs.nox (pss_cons (ps_if (pt_cmp (pc_din hu (pv 1) (pe_fld (pv 0) (by rfl)))) (pss_one (ps_ret (pe_dget hu (pe_fld (pv 0) (by rfl)) (pv 1) (fun _ _ => rfl)))) pss_nil)
      (pss_cons (ps_if (pt_val (pe_call L.F hr (by rfl) L.g L.kp (let_b2 L.D) .nil pass0 (pa_cons (pv 1) (pa_cons (pv 2) pa_nil)))) (pss_one (ps_ret (pe_dget1 hu (pe_fld (pv 0) (by rfl)) (pe_ix ix_str (pv 1) pe_int (fun _ _ => rfl)) ⟨rfl, rfl, rfl, rfl⟩))) pss_nil) (pss_one (ps_ret pe_non)))), ?_⟩
    have fr : ∀ {G : Hp} {σ : L2.St}, Ex H G → σ[0]? = some (some (.ref a)) → Ev (tFld K (tVar 0) "_results") σ G (.ref pr) := fun {G σ} e h0 => ev_fld S (ev_var h0) (hA.ex e) (f := "_results") (v := .ref pr) (List.mem_cons_of_mem _ List.mem_cons_self) (by decide)
    have hv : valV (resK sg) (Sum.inr x) = (sg.find? fun p => decide (p.1.1 = x)).map fun p => V.str p.1.2.2 := dkv_val
    cases b : sg.find? fun p => decide (p.1.1 = x) with
    | some p =>
      rw [b] at hv
      have hw : wordSort sorts (sg.map (·.1)) x n = some p.1.2.2 := by
        unfold wordSort
        rw [find_sg, b]
        rfl
      refine q_when (b := true) (et_is (et_test (ev_din (k := Sum.inr x) (ev_var rfl) (fr (Ex.refl H) rfl) hpr)) (by rw [hv]; rfl)) (fun _ H1 e1 => ?_) (fun z => by cases z)
      exact s_ret (ev_dget (k := Sum.inr x) (fr e1 rfl) (ev_var rfl) (e1 _ _ hpr) hv) fun H2 e2 => by
        have := k H2 (e1.trans e2)
        rw [hw] at this
        exact this
    | none =>
      rw [b] at hv
      refine q_when (b := false) (et_is (et_test (ev_din (k := Sum.inr x) (ev_var rfl) (fr (Ex.refl H) rfl) hpr)) (by rw [hv]; rfl)) (fun z => by cases z) (fun _ H1 e1 => ?_)
      have hcall : ∀ {G : Hp} {σ : L2.St} {E : XK}, σ[1]? = some (some (.str x)) → σ[2]? = some (some (.int n)) → Ev (tCall spIsLetter [] E (tCons (tVar 1) (tCons (tVar 2) tNil))) σ G (.bl (letterB (tl x) n)) := fun h1 h2 => ev_call (ea_cons (ev_var h1) (ea_cons (ev_var h2) ea_nil)) fun H1 _ Q q E => ⟨x, n, rfl, hx, fun H2 e2 => q H2 e2⟩
      cases b2 : letterB (tl x) n with
      | true =>
        obtain ⟨c, r, ec0⟩ := letter_head b2
        have hw : wordSort sorts (sg.map (·.1)) x n = (sorts.find? fun r => decide (r.2 = ⟨#[c]⟩)).map (·.1) := by
          unfold wordSort
          rw [find_sg, b]
          show (if letterB (tl x) n = true then _ else _) = _
          rw [if_pos b2, ec0]
          rfl
        refine q_when (b := true) (et_is (et_B (hcall rfl rfl)) b2) (fun _ H2 e2 => ?_) (fun z => by cases z)
        have e2 := e1.trans e2
        refine s_ret (ev_get1 (k := Sum.inr ⟨#[c]⟩) (ev_fld S (ev_var rfl) (hA.ex e2) (f := "_sorts") (v := .ref ps) List.mem_cons_self (by decide)) (ev_op (ev_var rfl) ev_c (rv_ixS hx (by rw [show x.cps.toList = c :: r from ec0]; exact atI_nat (j := 0) rfl))) (e2 _ _ hps)) fun H3 e3 => ?_
        have := k H3 (e2.trans e3)
        rw [hw] at this
        have hs : valV (sorK sorts) (Sum.inr ⟨#[c]⟩) = (sorts.find? fun r => decide (r.2 = ⟨#[c]⟩)).map fun r => V.str r.1 := dkv_val
        rw [hs]
        cases q : sorts.find? fun r => decide (r.2 = ⟨#[c]⟩) with
        | some r => rw [q] at this; exact this
        | none => rw [q] at this; exact this
      | false =>
        have hw : wordSort sorts (sg.map (·.1)) x n = none := by
          unfold wordSort
          rw [find_sg, b]
          show (if letterB (tl x) n = true then _ else _) = _
          rw [if_neg (by rw [b2]; decide)]
        refine q_when (b := false) (et_is (et_B (hcall rfl rfl)) b2) (fun z => by cases z) (fun _ H2 e2 => ?_)
        exact s_ret ev_c fun H3 e3 => by
          have := k H3 ((e1.trans e2).trans e3)
          rw [hw] at this
          exact this
end
end K01
-- KFor
/-! for i, x in enumerate(list); pop, extend; what split gives -/
namespace KNew
open PySem PySem.Spec PyProof.Rows L2 Evl KEv KSq KD TL KRvT
theorem spl_len (S : List Nat) : ∀ (l acc : List Nat) (k : Nat) (w : List Nat), w ∈ spl S k acc l → w.length ≤ acc.length + l.length
  | [], acc, k, w, h => by
    rw [spl_nil] at h
    rw [List.mem_singleton.mp h]
    exact Nat.le_add_right _ _
  | c :: r, acc, 0, w, h => by
    cases e : pre S (c :: r) with
    | true =>
      rw [spl_hit e] at h
      rcases List.mem_cons.mp h with z | z
      · rw [z]
        exact Nat.le_add_right _ _
      · have := spl_len S r [] _ w z
        simp only [List.length_nil, List.length_cons] at this ⊢
        omega
    | false =>
      rw [spl_miss e] at h
      have := spl_len S r _ _ w h
      simp only [List.length_append, List.length_cons, List.length_nil] at this ⊢
      omega
  | c :: r, acc, k + 1, w, h => by
    have h : w ∈ spl S k acc r := h
    have := spl_len S r acc k w h
    simp only [List.length_cons]
    omega
theorem spl_ne (S : List Nat) : ∀ (l acc : List Nat) (k : Nat), spl S k acc l ≠ []
  | [], acc, k => by
    rw [spl_nil]
    simp
  | c :: r, acc, 0 => by
    cases e : pre S (c :: r) with
    | true =>
      rw [spl_hit e]
      simp
    | false =>
      rw [spl_miss e]
      exact spl_ne S r _ _
  | c :: r, acc, k + 1 => spl_ne S r acc k
theorem spl_count (S : List Nat) : ∀ (l acc : List Nat) (k : Nat), (spl S k acc l).length ≤ l.length + 1
  | [], acc, k => by
    rw [spl_nil]
    simp
  | c :: r, acc, 0 => by
    cases e : pre S (c :: r) with
    | true =>
      rw [spl_hit e]
      have := spl_count S r [] (S.length - 1)
      simp only [List.length_cons]
      omega
    | false =>
      rw [spl_miss e]
      have := spl_count S r (acc ++ [c]) 0
      simp only [List.length_cons]
      omega
  | c :: r, acc, k + 1 => by
    have := spl_count S r acc k
    show (spl S k acc r).length ≤ _
    simp only [List.length_cons]
    omega
theorem split_tl (x : Str) : Txt.split x (" " : Str) = (spl [32] 0 [] (tl x)).map SX.S := by
  have e : x = SX.S (tl x) := by
    cases x
    simp [SX.S, tl]
  rw [show Txt.split x (" " : Str) = Txt.split (SX.S (tl x)) (SX.S [32]) by rw [← e]; rfl]
  exact SX.split_S (by simp) (by decide)
theorem split_len {x w : Str} (h : w ∈ Txt.split x (" " : Str)) : w.length ≤ x.length := by
  rw [split_tl] at h
  obtain ⟨l, hl, rfl⟩ := List.mem_map.mp h
  have := spl_len [32] (tl x) [] 0 l hl
  rw [len_tl x]
  show (SX.S l).length ≤ _
  have e : (SX.S l).length = l.length := by simp [SX.S, Str.length]
  rw [e]
  simpa using this
theorem split_count {x : Str} : (Txt.split x (" " : Str)).length ≤ x.length + 1 := by
  rw [split_tl, List.length_map, len_tl x]
  exact spl_count _ _ _ _
theorem split_ne {x : Str} : Txt.split x (" " : Str) ≠ [] := by
  rw [split_tl]
  intro z
  exact spl_ne _ _ _ _ (List.map_eq_nil_iff.mp z)
section
variable {K : PySem.W.Frag} {σ : L2.St} {H : Hp} {a l : Addr} {xs ys : List V} {tl te ta td ty : TE} {t : TT} {D : Ends} {tu tz : TS} {j m : Nat}
theorem s_forEnum (h : Ev tl σ H (.ref a)) (hx : SqL K H a xs) (Pv : Nat → L2.St → Hp → Prop) (h0 : ∀ H1, Ex H H1 → Pv 0 σ H1) (hp : ∀ i σ' H', Pv i σ' H' → SqL K H' a xs)
    (hs : ∀ (i : Nat) x σ' H' H2, xs[i]? = some x → Pv i σ' H' → Ex H' H2 → tu { D with nx := Pv (i + 1), ct := Pv (i + 1), bk := D.nx } ((σ'.set j (some (.int (i : Int)))).set m (some x)) H2) (hd : ∀ σ' H', Pv xs.length σ' H' → D.nx σ' H') :
    tFor (iEnum K (tCons tl tNil)) (gTup K 2 (gCons (gName j) (gCons (gName m) gNil))) tu D σ H :=
  h H (Ex.refl H) _ fun H1 e1 => ⟨a, xs, rfl, ex_l e1 hx, for_it walk_enum Pv (h0 H1 e1) (fun i σ' H' _ p => hp i σ' H' p) (fun i v σ' H2 H3 hi p y => by
    obtain ⟨T, x, z, rfl, hT, rfl, ex, ez⟩ := y
    obtain rfl := (Option.some.inj ex)
    exact ⟨T, _, rfl, st_of upd_same, rfl, _, _, rfl, _, _, rfl, rfl, hs i z σ' H2 _ ez p (Ex.new hT)⟩) hd⟩
theorem q_forEnum (h : Ev tl σ H (.ref a)) (hx : SqL K H a xs) (Pv : Nat → L2.St → Hp → Prop) (h0 : ∀ H1, Ex H H1 → Pv 0 σ H1) (hp : ∀ i σ' H', Pv i σ' H' → SqL K H' a xs)
    (hs : ∀ (i : Nat) x σ' H' H2, xs[i]? = some x → Pv i σ' H' → Ex H' H2 → tu { D with nx := Pv (i + 1), ct := Pv (i + 1), bk := tz D } ((σ'.set j (some (.int (i : Int)))).set m (some x)) H2) (hd : ∀ σ' H', Pv xs.length σ' H' → tz D σ' H') :
    tSeq (tFor (iEnum K (tCons tl tNil)) (gTup K 2 (gCons (gName j) (gCons (gName m) gNil))) tu) tz D σ H :=
  s_forEnum (D := { D with nx := tz D }) h hx Pv h0 hp hs hd
/-- y = xs.pop() -/
theorem q_pop {v : V} (ha : Ev ta σ H (.ref l)) (hl : H l = some (.lst xs)) (hv : xs[xs.length - 1]? = some v) (k : ∀ H1, Ex H H1 → tz D (σ.set j (some v)) (upd H1 l (.lst xs.dropLast))) : tSeq (tAsg (tBM0 K "list" rPop ta) (gName j)) tz D σ H :=
  ha H (Ex.refl H) _ fun H1 e1 => ⟨.inl ⟨rfl, xs, sq_of (e1 _ _ hl)⟩, l, xs, v, rfl, rfl, e1 _ _ hl, hv, k H1 e1⟩
/-- xs.extend(a new list) -/
theorem s_extL (ha : Ev ta σ H (.ref l)) (hl : H l = some (.lst xs)) (h : EvL te σ H ys) (hz : xs.length + ys.length ≤ 100000) (k : ∀ H1, Ex H H1 → D.nx σ (upd H1 l (.lst (xs ++ ys)))) : tDrop (tBM K "list" rExtend ta (tCons te tNil)) D σ H :=
  ha H (Ex.refl H) _ fun H1 e1 => ⟨.inl ⟨rfl, xs, sq_of (e1 _ _ hl)⟩, h H1 e1 _ fun p H2 _ e2 h2 => ⟨l, p, xs, ys, rfl, rfl, e2 _ _ (e1 _ _ hl), h2, sz_of hz, k H2 (e1.trans e2)⟩⟩
end
end KNew
-- E13
namespace K01
open PySem PySem.Spec PyProof.Rows L2 Evl KEv TL KDd KSq KSame KTxt KHot KSup KNew KRvT KD
/-! fault, check -/
def argsOf (signs : List Sgn) (x : Str) : List Str := match signs.find? fun g => decide (g.1 = x) with
  | some g => g.2.1
  | none => []
/-- the first faulty word, behind i good ones; what is due, the next one first -/
def faultFrom (sorts : List Row) (signs : List Sgn) : Nat → List (Option Str) → List Str → Option Nat
  | i, due, [] => if due.isEmpty then none else some i
  | i, [], _ :: _ => some i
  | i, here :: due, x :: ws => if 200 ≤ i then some i else match wordSort sorts signs x 9 with
    | none => some i
    | some f => if here = none ∨ here = some f then faultFrom sorts signs (i + 1) ((argsOf signs x).map some ++ due) ws else some i
def faultOf (sorts : List Row) (signs : List Sgn) (text : Str) (wanted : Option Str) : Option Nat := faultFrom sorts signs 0 [wanted] (Txt.split text (" " : Str))
def oN : Option Nat → V
  | some i => .int (i : Int)
  | none => .non
def rNotN : R2 := fun x y H Q => y = .non ∧ Q (.bl (!decide (x = .non))) H
theorem op_notNon {X : Cx} : OpR X (compareOp .IsNot) rNotN := op_notN
theorem rv_notN {x : V} {H : Hp} : RV rNotN x .non H (.bl (!decide (x = .non))) := fun H1 _ _ q => ⟨rfl, q H1 (Ex.refl H1)⟩
theorem oV_non {o : Option Str} : decide (oV o = .non) = decide (o = none) := by
  cases o with
  | none => rfl
  | some x => rfl
section
variable {P : Program} {w : World} {K : PySem.W.Frag} {mg : Str → Option Value} {base : Heap} {ec fi : EK → Addr} {C : Addr}
/-- list(reversed(self._arguments.get(word, ()))) -/
theorem el_args {σ : L2.St} {H : Hp} {td ty : TE} {d : Addr} {sg : List (Sgn × Addr)} {x : Str} (hd : Ev td σ H (.ref d)) (hk : Ev ty σ H (.str x)) (h : H d = some (.dK (argK sg))) (ht : ∀ p ∈ sg, H p.2 = some (.tup (p.1.2.1.map V.str))) :
    EvL (tLstRev K (tDGet2 td ty (tTup tNil))) σ H ((argsOf (sg.map (·.1)) x).reverse.map V.str) := by
  have hv : valV (argK sg) (Sum.inr x) = (sg.find? fun p => decide (p.1.1 = x)).map fun p => V.ref p.2 := dkv_val
  have ea : argsOf (sg.map (·.1)) x = match sg.find? fun p => decide (p.1.1 = x) with
      | some p => p.1.2.1
      | none => [] := by
    unfold argsOf
    rw [find_sg]
    cases sg.find? fun p => decide (p.1.1 = x) <;> rfl
  intro H1 e Q q
  refine hd H1 e _ fun H2 e2 => ⟨d, rfl, .inl ⟨argK sg, .inl (e2 _ _ (e _ _ h))⟩, hk H2 (e.trans e2) _ fun H3 e3 => ⟨by show 0 ≤ sizeLine; decide, fun p hp => ?_⟩⟩
  have e4 : Ex H3 (upd H3 p (.tup [])) := Ex.new hp
  have e14 := (e2.trans e3).trans e4
  refine ⟨_, DGet.k (k := Sum.inr x) (e14 _ _ (e _ _ h)), ?_⟩
  rw [hv]
  cases b : sg.find? fun p => decide (p.1.1 = x) with
  | some r =>
    rw [b] at ea
    refine ⟨r.2, _, rfl, st_of (e14 _ _ (e _ _ (ht r (List.mem_of_find?_eq_some b)))), fun l hl => ?_⟩
    refine q l _ (fresh_back e14 hl) (e14.trans (Ex.new hl)) ?_
    rw [upd_same, ea, List.map_reverse]
  | none =>
    rw [b] at ea
    refine ⟨p, [], rfl, st_of upd_same, fun l hl => ?_⟩
    refine q l _ (fresh_back e14 hl) (e14.trans (Ex.new hl)) ?_
    rw [upd_same, ea]
    rfl
abbrev FltD (K : PySem.W.Frag) (f : Addr) (fd : FuncData) : Prop := FunD K "fault" "Signature.fault" (defArgs (sSig 8)) (defBody (sSig 8)) (defScope (sSig 8)) [.non] [] f fd
/-- what the queries need of a made signature -/
structure SigAt (C : Addr) (H : Hp) (a : Addr) (sorts : List Row) (signs : List Sgn) (pc ps pa pr : Addr) (sg : List (Sgn × Addr)) : Prop where
  at_ : AtI C H a [("_capitals", .ref pc), ("_sorts", .ref ps), ("_arguments", .ref pa), ("_results", .ref pr)]
  no : ∃ dx fs, H a = some (.ins C dx fs) ∧ ∀ m ∈ (["_add_sort", "_add_sign", "capital", "arguments", "result", "is_bare", "sort_of_word", "fault", "check"] : List Str), fs.lookup m = none
  pc : H pc = some (.dK (capK sorts))
  ps : H ps = some (.dK (sorK sorts))
  pa : H pa = some (.dK (argK sg))
  pr : H pr = some (.dK (resK sg))
  es : sg.map (·.1) = signs
  tup : ∀ p ∈ sg, H p.2 = some (.tup (p.1.2.1.map V.str))
theorem SigAt.mono {H H' : Hp} {a : Addr} {sorts : List Row} {signs : List Sgn} {pc ps pa pr : Addr} {sg : List (Sgn × Addr)} (h : SigAt C H a sorts signs pc ps pa pr sg) (e : Ex H H') : SigAt C H' a sorts signs pc ps pa pr sg := by
  obtain ⟨dx, fs, h1, h2⟩ := h.no
  exact ⟨h.at_.ex e, ⟨dx, fs, e _ _ h1, h2⟩, e _ _ h.pc, e _ _ h.ps, e _ _ h.pa, e _ _ h.pr, h.es, fun p hp => e _ _ (h.tup p hp)⟩
def spFault (C : Addr) : Sp := fun vs H Q _ => ∃ (a : Addr) (x : Str) (wanted : Option Str) (sorts : List Row) (signs : List Sgn) (pc ps pa pr : Addr) (sg : List (Sgn × Addr)), vs = [.ref a, .str x, oV wanted] ∧ SigAt C H a sorts signs pc ps pa pr sg ∧ x.length ≤ 100000 ∧ (∀ g ∈ signs, g.2.1.length ≤ 4) ∧ RetV (oN (faultOf sorts signs x wanted)) H Q
theorem scFlt : FnScope ["self", "text", "wanted", "due", "words", "place", "word", "here", "found"] ["self", "text", "wanted"] (defScope (sSig 8)) := ⟨rfl, rfl, rfl, by decide +kernel, rfl, by decide +kernel, by decide +kernel⟩
theorem args_len {signs : List Sgn} {x : Str} (h : ∀ g ∈ signs, g.2.1.length ≤ 4) : (argsOf signs x).length ≤ 4 := by
  unfold argsOf
  cases b : signs.find? fun g => decide (g.1 = x) with
  | some g => exact h g (List.mem_of_find?_eq_some b)
  | none => exact Nat.zero_le _
theorem ev_sow {σ : L2.St} {G : Hp} {a : Addr} {x : Str} {E : XK} {ta tw : TE} {sorts : List Row} {signs : List Sgn} {pc ps pa pr : Addr} {sg : List (Sgn × Addr)} (hS : SigAt C G a sorts signs pc ps pa pr sg) (ha : Ev ta σ G (.ref a)) (hw : Ev tw σ G (.str x)) (hl : x.length ≤ 100000) :
    Ev (tMeth C "sort_of_word" (spSortW C) [.int 9] E ta (tCons tw tNil)) σ G (oV (wordSort sorts signs x 9)) := fun H1 e Q q =>
  ha H1 e _ fun H2 e2 => by
    obtain ⟨dx, fs, h1, h2⟩ := hS.no
    obtain ⟨dx', fs', h3, h4⟩ := hS.at_
    refine ⟨a, dx, fs, rfl, e2 _ _ (e _ _ h1), h2 _ (by decide), hw H2 (e.trans e2) _ fun H3 e3 => ?_⟩
    have e13 := (e.trans e2).trans e3
    refine ⟨a, x, 9, ps, pr, sorts, sg, rfl, ⟨dx', fs', e13 _ _ h3, fun m hm => h4 m ?_⟩, e13 _ _ hS.ps, e13 _ _ hS.pr, hl, fun H4 e4 => ?_⟩
    · simp only [List.mem_cons, List.not_mem_nil, or_false] at hm ⊢
      rcases hm with rfl | rfl
      · exact .inr (.inl rfl)
      · exact .inr (.inr (.inr rfl))
    · rw [hS.es]
      exact q H4 ((e2.trans e3).trans e4)
theorem ok_fault {f f7 : Addr} {fd fd7 : FuncData} {ds7 : List Value} (F : FltD K f fd) (S : SigC K C) (m7 : Meth K C "sort_of_word" f7) (G7 : FnOk P w K mg base CX0 2 f7 fd7 ["self", "word", "digits"] (spSortW C)) (b7 : Binds K fd7 ["self", "word", "digits"] ds7) (v7 : Vals [.int 9] ds7) (N : Nm mg) (M : NmS mg) (mR : mg "reversed" = none) (mE : mg "enumerate" = none) {tk : Tok} (gM : mg "MOST_WORDS" = some (.int 200 tk)) : FnOk P w K mg base CX0 3 f fd ["self", "text", "wanted"] (spFault C) := by
  refine F.ok scFlt (fun vs H Q E h => ?_) (fun cdv A outer s H vs Q E hr h => ?_)
  · obtain ⟨a, x, wanted, sorts, signs, pc, ps, pa, pr, sg, rfl, _⟩ := h
    rfl
  · obtain ⟨a, x, wanted, sorts, signs, pc, ps, pa, pr, sg, rfl, hS, hx, h4, k⟩ := h
    have hu := hu_of hr
    refine ⟨_, PSs.nox (pss_cons (ps_set (i := 3) scFlt.nd rfl (.inl rfl) (pe_lst (pa_cons (pv 2) pa_nil)))
      (pss_cons (ps_set (i := 4) scFlt.nd rfl (.inl rfl) (pe_splitS (pv 1) pe_str))
      (pss_cons (ps_for PassesOwn.never rfl (pi_enum (by rfl) mE (pa_cons (pv 4) pa_nil)) (pg_tup rfl (pgs_cons (pg_name (i := 5) scFlt.nd rfl (.inl rfl)) (pgs_cons (pg_name (i := 6) scFlt.nd rfl (.inl rfl)) pgs_nil)))
        (pss_cons (ps_if (PW.pt (pw_or (pt_not (pt_tru (pv 3))) (pw_or1 (pt_cmpR op_ge (pv 5) (pe_glob (v := .int 200) rfl gM ⟨_, rfl⟩) (nomark _))))) (pss_one (ps_ret (pv 5))) pss_nil)
        (pss_cons (ps_asg (pe_bm0 PySem.F.plainAttrs_list PySem.F.slot_list_pop PySem.F.type_list_pop mt_pop (pv 3)) (pg_name (i := 7) scFlt.nd rfl (.inl rfl)))
        (pss_cons (ps_asg (pe_meth (pv 0) S.cl m7 G7 hr b7 v7 pass0 (pa_cons (pv 6) pa_nil)) (pg_name (i := 8) scFlt.nd rfl (.inl rfl)))
        (pss_cons (ps_if (PW.pt (pw_or (pt_cmpR op_isNon (pv 8) pe_non (nomark _)) (pw_or1 (PW.pt (pw_and (pt_cmpR op_notNon (pv 7) pe_non (nomark _)) (pw_and1 (pt_cmpR op_ne (pv 7) (pv 8) (nomark _)))))))) (pss_one (ps_ret (pv 5))) pss_nil)
        (pss_one (ps_expr (pe_bm PySem.F.plainAttrs_list PySem.F.slot_list_extend PySem.F.type_list_extend mt_extend (pv 3) (pa_cons (pe_lstRev rfl (by rfl) M.list (by rfl) mR (pe_dget2 hu (pe_fld (pv 0) (by rfl)) (pv 6) (pe_tup pa_nil) ⟨rfl, rfl, rfl, rfl⟩)) pa_nil)))))))))
      (pss_cons (ps_if (pt_tru (pv 3)) (pss_one (ps_ret (pe_callB call_len_seq (by rfl) N.len PySem.boot_len (pa_cons (pv 4) pa_nil)))) pss_nil) (pss_one (ps_ret pe_non)))))), ?_⟩
    refine q_asgL (el_lst (ea_cons (ev_var rfl) ea_nil) (by simp)) fun pd H1 np1 e1 h1 => ?_
    refine q_asgL (el_split (ev_var rfl) ev_c (by decide) (by omega)) fun pw H2 np2 e2 h2 => ?_
    have wl : ∀ w ∈ Txt.split x (" " : Str), w.length ≤ 100000 := fun w hw => Nat.le_trans (split_len hw) hx
    have hdw : pw ≠ pd := fun z => by
      rw [z, h1] at np2
      cases np2
    have np2 : H pw = none := fresh_back e1 np2
    unfold faultOf at k
    generalize Txt.split x (" " : Str) = ws at h2 wl k
    refine q_forEnum (xs := ws.map V.str) (ev_var rfl) (sq_of h2) (fun i σ' H' => ∃ (due : List (Option Str)) (u5 u6 u7 u8 : Option V), σ' = [some (.ref a), some (.str x), some (oV wanted), some (.ref pd), some (.ref pw), u5, u6, u7, u8] ∧ Ex H H' ∧ H' pw = some (.lst (ws.map V.str)) ∧ H' pd = some (.lst (due.reverse.map oV)) ∧ faultFrom sorts signs 0 [wanted] ws = faultFrom sorts signs i due (ws.drop i) ∧ due.length ≤ 1 + 4 * i ∧ i ≤ 200)
      (fun H3 e3 => ⟨[wanted], none, none, none, none, rfl, (e1.trans e2).trans e3, e3 _ _ h2, e3 _ _ (e2 _ _ h1), rfl, by simp, by omega⟩) (fun i σ' H' p => by
        obtain ⟨_, _, _, _, _, _, _, z, _⟩ := p
        exact sq_of z) (fun i v σ' H3 H4 hv p e4 => ?_) (fun σ' H' p => ?_)
    · obtain ⟨due, u5, u6, u7, u8, rfl, e3, hw3, hd3, hff, hl, hi⟩ := p
      rw [List.getElem?_map] at hv
      cases ew : ws[i]? with
      | none => rw [ew] at hv; cases hv
      | some w =>
        rw [ew] at hv
        obtain rfl : V.str w = v := Option.some.inj hv
        rw [drop_at ew] at hff
        have e3 := e3.trans e4
        have hw4 := e4 _ _ hw3
        have hd4 := e4 _ _ hd3
        have hwl := wl w (List.mem_of_getElem? ew)
        cases due with
        | nil =>
          have ff : faultFrom sorts signs 0 [wanted] ws = some i := hff
          rw [ff] at k
          exact q_when (b := true) (et_or (a := true) (b := true) (et_is (et_not (et_truL (xs := []) (ev_var rfl) (sq_of hd4))) rfl) fun z => by cases z) (fun _ H5 e5 => s_ret (ev_var rfl) fun H6 e6 => k H6 ((e3.trans e5).trans e6)) (fun z => by cases z)
        | cons here due =>
          have hrev : (here :: due).reverse.map oV = due.reverse.map oV ++ [oV here] := by simp
          rw [hrev] at hd4
          have hne : (due.reverse.map oV ++ [oV here]).isEmpty = false := by simp
          by_cases h200 : 200 ≤ i
          · have ff : faultFrom sorts signs 0 [wanted] ws = some i := by
              rw [hff, faultFrom, if_pos h200]
            rw [ff] at k
            exact q_when (b := true) (et_or (a := false) (b := true) (et_is (et_not (et_truL (ev_var rfl) (sq_of hd4))) (by rw [hne]; rfl)) fun _ => et_is (et_test (ev_op (ev_var rfl) ev_c rv_I0)) (decide_eq_true (by omega))) (fun _ H5 e5 => s_ret (ev_var rfl) fun H6 e6 => k H6 ((e3.trans e5).trans e6)) (fun z => by cases z)
          · refine q_when (b := false) (et_or (a := false) (b := false) (et_is (et_not (et_truL (ev_var rfl) (sq_of hd4))) (by rw [hne]; rfl)) fun _ => et_is (et_test (ev_op (ev_var rfl) ev_c rv_I0)) (decide_eq_false (by omega))) (fun z => by cases z) (fun _ H5 e5 => ?_)
            refine q_pop (v := oV here) (ev_var rfl) (e5 _ _ hd4) (by simp) fun H6 e6 => ?_
            rw [List.dropLast_concat]
            have hw6' := e6 _ _ (e5 _ _ hw4)
            have e6 := (e3.trans (e5.trans e6)).mut (o := .lst (due.reverse.map oV)) np1
            have hw6 : (upd H6 pd (.lst (due.reverse.map oV))) pw = some (.lst (ws.map V.str)) := by
              rw [upd_ne hdw]
              exact hw6'
            have hd6 : (upd H6 pd (.lst (due.reverse.map oV))) pd = some (.lst (due.reverse.map oV)) := upd_same
            generalize (upd H6 pd (.lst (due.reverse.map oV))) = H7 at e6 hw6 hd6
            refine q_asg (ev_sow (hS.mono e6) (ev_var rfl) (ev_var rfl) hwl) fun H8 e8 => ?_
            have e8' := e6.trans e8
            cases hf : wordSort sorts signs w 9 with
            | none =>
              have ff : faultFrom sorts signs 0 [wanted] ws = some i := by
                rw [hff, faultFrom, if_neg h200, hf]
              rw [ff] at k
              exact q_when (b := true) (et_or (a := true) (b := true) (et_test (ev_op (ev_var rfl) ev_c rv_isN)) fun z => by cases z) (fun _ H9 e9 => s_ret (ev_var rfl) fun H10 e10 => k H10 ((e8'.trans e9).trans e10)) (fun z => by cases z)
            | some f =>
              rw [faultFrom, if_neg h200, hf] at hff
              have ht : EvT (tOr (tTest (tOp rIsN (tVar 8) (tC .non))) (tAnd (tTest (tOp rNotN (tVar 7) (tC .non))) (tTest (tOp rNe (tVar 7) (tVar 8))))) [some (.ref a), some (.str x), some (oV wanted), some (.ref pd), some (.ref pw), some (.int i), some (.str w), some (oV here), some (.str f)] H8 (!decide (here = none ∨ here = some f)) := by
                refine et_is (et_or (b := !decide (here = none ∨ here = some f)) (et_test (ev_op (ev_var rfl) ev_c rv_isN)) fun _ => ?_) rfl
                cases here with
                | none => exact et_is (et_and (b := true) (et_test (ev_op (ev_var rfl) ev_c rv_notN)) fun z => by cases z) rfl
                | some g => exact et_is (et_and (b := !decide (V.str g = V.str f)) (et_test (ev_op (ev_var rfl) ev_c rv_notN)) fun _ => et_test (ev_op (ev_var rfl) (ev_var rfl) (rv_ne rfl))) (by simp [oV])
              by_cases hq : here = none ∨ here = some f
              · simp only [hq, if_true] at hff
                refine q_when (b := false) (et_is ht (by simp [hq])) (fun z => by cases z) (fun _ H9 e9 => ?_)
                have e9' := e8'.trans e9
                refine s_extL (ev_var rfl) (e9 _ _ (e8 _ _ hd6)) (el_args (sg := sg) (ev_fld S (ev_var rfl) (hS.at_.ex e9') (f := "_arguments") (v := .ref pa) (List.mem_cons_of_mem _ (List.mem_cons_of_mem _ List.mem_cons_self)) (by decide)) (ev_var rfl) (e9' _ _ hS.pa) (fun p hp => e9' _ _ (hS.tup p hp))) ?_ fun H10 e10 => ?_
                · have := args_len (x := w) h4
                  rw [hS.es]
                  simp only [List.length_map, List.length_reverse, List.length_cons] at hl ⊢
                  omega
                · have e10' := (e9'.trans e10).mut (o := .lst (due.reverse.map oV ++ (argsOf (sg.map (·.1)) w).reverse.map V.str)) np1
                  refine ⟨(argsOf signs w).map some ++ due, _, _, _, _, rfl, e10', ?_, ?_, hff, ?_, by omega⟩
                  · rw [upd_ne hdw]
                    exact e10 _ _ (e9 _ _ (e8 _ _ hw6))
                  · rw [upd_same, hS.es]
                    simp [List.map_reverse, Function.comp_def, oV]
                  · have := args_len (x := w) h4
                    simp only [List.length_append, List.length_map, List.length_cons] at hl ⊢
                    omega
              · simp only [hq, if_false] at hff
                rw [hff] at k
                exact q_when (b := true) (et_is ht (by simp [hq])) (fun _ H9 e9 => s_ret (ev_var rfl) fun H10 e10 => k H10 ((e8'.trans e9).trans e10)) (fun z => by cases z)
    · obtain ⟨due, u5, u6, u7, u8, rfl, e3, hw3, hd3, hff, hl, hi⟩ := p
      rw [List.length_map] at hff hl hi
      rw [List.drop_length] at hff
      have hff : faultFrom sorts signs 0 [wanted] ws = if due.isEmpty then none else some ws.length := hff
      rw [hff] at k
      cases due with
      | nil => exact q_when (b := false) (et_is (et_truL (xs := []) (ev_var rfl) (sq_of hd3)) rfl) (fun z => by cases z) (fun _ H5 e5 => s_ret ev_c fun H6 e6 => k H6 ((e3.trans e5).trans e6))
      | cons here due => exact q_when (b := true) (et_is (et_truL (ev_var rfl) (sq_of hd3)) (by simp)) (fun _ H5 e5 => s_ret (ev_is (ev_len (ev_var rfl) (sq_of (e5 _ _ hw3))) (by rw [List.length_map]; rfl)) fun H6 e6 => k H6 ((e3.trans e5).trans e6)) (fun z => by cases z)
end
end K01
-- E14
namespace K01
open PySem PySem.Spec PyProof.Rows L2 Evl KEv TL KDd KSq KSame KTxt KHot KSup KNew KRvT KD
/-! check -/
def RaisesV (ec : EK → Addr) (k : EK) (us : List V) (H : Hp) (E : XK) : Prop := ∀ d H', H d = none → Ex H H' → H' d = some (.xd ((fl k).zip us).reverse) → E (.ref (ec k)) (some d) H'
def spCheck (ec : EK → Addr) (C : Addr) : Sp := fun vs H Q E => ∃ (a : Addr) (x : Str) (wanted : Option Str) (sorts : List Row) (signs : List Sgn) (pc ps pa pr : Addr) (sg : List (Sgn × Addr)), vs = [.ref a, .str x, oV wanted] ∧ SigAt C H a sorts signs pc ps pa pr sg ∧ x.length ≤ 100000 ∧ (∀ g ∈ signs, g.2.1.length ≤ 4) ∧
  (∀ i, faultOf sorts signs x wanted = some i → RaisesV ec .term [.str x, .int (i : Int)] H E) ∧ (faultOf sorts signs x wanted = none → ∀ w, (Txt.split x (" " : Str))[0]? = some w → RetV (oV (wordSort sorts signs w 9)) H Q)
abbrev ChkD (K : PySem.W.Frag) (f : Addr) (fd : FuncData) : Prop := FunD K "check" "Signature.check" (defArgs (sSig 9)) (defBody (sSig 9)) (defScope (sSig 9)) [.non] [] f fd
theorem scChk : FnScope ["self", "text", "wanted", "place"] ["self", "text", "wanted"] (defScope (sSig 9)) := ⟨rfl, rfl, rfl, by decide +kernel, rfl, by decide +kernel, by decide +kernel⟩
section
variable {P : Program} {w : World} {K : PySem.W.Frag} {mg : Str → Option Value} {base : Heap} {ec fi : EK → Addr} {C : Addr}
theorem ev_flt {σ : L2.St} {G : Hp} {a : Addr} {x : Str} {wanted : Option Str} {E : XK} {ta tx tw : TE} {sorts : List Row} {signs : List Sgn} {pc ps pa pr : Addr} {sg : List (Sgn × Addr)} (hS : SigAt C G a sorts signs pc ps pa pr sg) (h4 : ∀ g ∈ signs, g.2.1.length ≤ 4) (ha : Ev ta σ G (.ref a)) (hx : Ev tx σ G (.str x)) (hw : Ev tw σ G (oV wanted)) (hl : x.length ≤ 100000) :
    Ev (tMeth C "fault" (spFault C) [] E ta (tCons tx (tCons tw tNil))) σ G (oN (faultOf sorts signs x wanted)) := fun H1 e Q q =>
  ha H1 e _ fun H2 e2 => by
    obtain ⟨dx, fs, h1, h2⟩ := hS.no
    refine ⟨a, dx, fs, rfl, e2 _ _ (e _ _ h1), h2 _ (by decide), hx H2 (e.trans e2) _ fun H3 e3 => hw H3 ((e.trans e2).trans e3) _ fun H4 e4 => ?_⟩
    have e14 := ((e.trans e2).trans e3).trans e4
    exact ⟨a, x, wanted, sorts, signs, pc, ps, pa, pr, sg, rfl, hS.mono e14, hl, h4, fun H5 e5 => q H5 (((e2.trans e3).trans e4).trans e5)⟩
theorem ev_flt1 {σ : L2.St} {G : Hp} {a : Addr} {x : Str} {E : XK} {ta tx : TE} {sorts : List Row} {signs : List Sgn} {pc ps pa pr : Addr} {sg : List (Sgn × Addr)} (hS : SigAt C G a sorts signs pc ps pa pr sg) (h4 : ∀ g ∈ signs, g.2.1.length ≤ 4) (ha : Ev ta σ G (.ref a)) (hx : Ev tx σ G (.str x)) (hl : x.length ≤ 100000) :
    Ev (tMeth C "fault" (spFault C) [.non] E ta (tCons tx tNil)) σ G (oN (faultOf sorts signs x none)) := fun H1 e Q q =>
  ha H1 e _ fun H2 e2 => by
    obtain ⟨dx, fs, h1, h2⟩ := hS.no
    refine ⟨a, dx, fs, rfl, e2 _ _ (e _ _ h1), h2 _ (by decide), hx H2 (e.trans e2) _ fun H3 e3 => ?_⟩
    exact ⟨a, x, none, sorts, signs, pc, ps, pa, pr, sg, rfl, hS.mono ((e.trans e2).trans e3), hl, h4, fun H5 e5 => q H5 ((e2.trans e3).trans e5)⟩
theorem ok_check {f f7 f8 : Addr} {fd fd7 fd8 : FuncData} {ds7 : List Value} (F : ChkD K f fd) (S : SigC K C) (E0 : Errs P K mg ec fi) (m7 : Meth K C "sort_of_word" f7) (G7 : FnOk P w K mg base CX0 2 f7 fd7 ["self", "word", "digits"] (spSortW C)) (b7 : Binds K fd7 ["self", "word", "digits"] ds7) (v7 : Vals [.int 9] ds7)
    (m8 : Meth K C "fault" f8) (G8 : FnOk P w K mg base CX0 3 f8 fd8 ["self", "text", "wanted"] (spFault C)) (b8 : Binds K fd8 ["self", "text", "wanted"] []) : FnOk P w K mg base (L2N.CX P w) 4 f fd ["self", "text", "wanted"] (spCheck ec C) := by
  refine F.ok scChk (fun vs H Q E h => ?_) (fun cdv A outer s H vs Q E hr h => ?_)
  · obtain ⟨a, x, wanted, sorts, signs, pc, ps, pa, pr, sg, rfl, _⟩ := h
    rfl
  · obtain ⟨a, x, wanted, sorts, signs, pc, ps, pa, pr, sg, rfl, hS, hx, h4, kf, kn⟩ := h
    have tk := L2N.takes_of (X := cxOf (L2N.CX P w) P w K mg base ["self", "text", "wanted", "place"] "Signature.check" (defScope (sSig 9)) f cdv A outer s H E) rfl rfl rfl rfl
    refine ⟨_, pss_cons (ps_set (i := 3) scChk.nd rfl (.inl rfl) (pe_meth (pv 0) S.cl m8 G8 hr b8 .nil pass0 (pa_cons (pv 1) (pa_cons (pv 2) pa_nil))))
      (pss_cons (ps_if (pt_cmpR op_notNon (pv 3) pe_non (nomark _)) (pss_one (L2N.ps_raise rfl tk (pmk_sup (x := "BadTerm") (E0.t .term) (by decide) hr (pa_cons (pv 1) (pa_cons (pv 3) pa_nil)) (by rfl)))) pss_nil)
      (pss_one (ps_ret (pe_meth (pv 0) S.cl m7 G7 (hr.mono (by decide)) b7 v7 pass0 (pa_cons (pe_ix ix_list (pe_splitS (pv 1) pe_str) pe_int (fun _ _ => rfl)) pa_nil))))), ?_⟩
    refine q_asg (ev_flt hS h4 (ev_var rfl) (ev_var rfl) (ev_var rfl) hx) fun H1 e1 => ?_
    cases hf : faultOf sorts signs x wanted with
    | some i =>
      refine q_when (b := true) (et_test (ev_op (ev_var rfl) ev_c rv_notN)) (fun _ H2 e2 => ?_) (fun z => by cases z)
      exact (ea_cons (ev_var rfl) (ea_cons (ev_var rfl) ea_nil)) H2 (Ex.refl H2) _ fun H3 e3 => ⟨rfl, fun d hd => kf i hf d _ (fresh_back ((e1.trans e2).trans e3) hd) (((e1.trans e2).trans e3).trans (Ex.new hd)) upd_same⟩
    | none =>
      refine q_when (b := false) (et_test (ev_op (ev_var rfl) ev_c rv_notN)) (fun z => by cases z) (fun _ H2 e2 => ?_)
      have e2 := e1.trans e2
      obtain ⟨w, hw⟩ : ∃ w, (Txt.split x (" " : Str))[0]? = some w := ⟨_, List.getElem?_eq_getElem (List.length_pos_iff.mpr split_ne)⟩
      have hwl := Nat.le_trans (split_len (List.mem_of_getElem? hw)) hx
      refine s_ret (ev_sow (hS.mono e2) (ev_var rfl) (ev_opL1 (el_split (ev_var rfl) ev_c (by decide) (by omega)) (fun _ _ => ev_c) fun p H3 h3 e3 => rv_ixL (sq_of h3) (atI_nat (j := 0) (by rw [List.getElem?_map, hw]; rfl))) hwl) fun H3 e3 => kn hf w hw H3 (e2.trans e3)
end
end K01
-- KRow
/-! comprehensions over lists whose items stand for things of a kind α -/
namespace KNew
open PySem PySem.Spec PyProof.Rows L2 Evl KEv KSq KD TL
section
variable {α : Type} {K : PySem.W.Frag} {σ : L2.St} {H : Hp} {a : Addr} {xs : List V} {tl te : TE} {t : TT} {j : Nat} {vs : List Nat} {l : List α} {p : α → Bool} {f : α → V}
def pAt (l : List α) (p : α → Bool) (i : Nat) : Bool := match l[i]? with
  | some r => p r
  | none => false
def vAt (l : List α) (f : α → V) (i : Nat) : V := match l[i]? with
  | some r => f r
  | none => .non
theorem given_take : ∀ {k : Nat}, k ≤ l.length → given k (pAt l p) (vAt l f) = ((l.take k).filter p).map f
  | 0, _ => rfl
  | k + 1, h => by
    have e : l[k]? = some l[k] := List.getElem?_eq_getElem h
    have ih := given_take (k := k) (Nat.le_of_succ_le h)
    have e1 : pAt l p k = p l[k] := by
      unfold pAt
      rw [e]
    have e2 : vAt l f k = f l[k] := by
      unfold vAt
      rw [e]
    rw [List.take_add_one, e, List.filter_append, List.map_append, ← ih]
    cases b : p l[k] with
    | true =>
      rw [given_yes (e1.trans b), e2]
      simp [b]
    | false =>
      rw [given_no (e1.trans b)]
      simp [b]
theorem given_l {n : Nat} (h : n = l.length) : given n (pAt l p) (vAt l f) = (l.filter p).map f := by
  rw [given_take (Nat.le_of_eq h), h, List.take_length]
/-- over a list that stands -/
theorem el_lcF (l : List α) (p : α → Bool) (f : α → V) (h : Ev tl σ H (.ref a)) (hx : SqL K H a xs) (hl : xs.length = l.length) (hz : l.length ≤ 40000) (hw : ∀ x, wipe ((wipe σ vs).set j (some x)) vs = wipe σ vs)
    (ht : ∀ (i : Nat) (x : V) (r : α) H1, Ex H H1 → xs[i]? = some x → l[i]? = some r → EvT t ((wipe σ vs).set j (some x)) H1 (p r)) (he : ∀ (i : Nat) (x : V) (r : α) H1, Ex H H1 → xs[i]? = some x → l[i]? = some r → p r = true → Ev te ((wipe σ vs).set j (some x)) H1 (f r)) :
    EvL (tLc (iList K tl) (gName j) t te vs) σ H ((l.filter p).map f) := by
  rw [← given_l (p := p) (f := f) hl]
  refine el_lcL (pAt l p) (vAt l f) h hx (by omega) hw (fun i x H1 e hi => ?_) (fun i x H1 e hi hf => ?_)
  · obtain ⟨r, er⟩ : ∃ r, l[i]? = some r := ⟨_, List.getElem?_eq_getElem (by have := (List.getElem?_eq_some_iff.mp hi).1; omega)⟩
    have e1 : pAt l p i = p r := by
      unfold pAt
      rw [er]
    rw [e1]
    exact ht i x r H1 e hi er
  · obtain ⟨r, er⟩ : ∃ r, l[i]? = some r := ⟨_, List.getElem?_eq_getElem (by have := (List.getElem?_eq_some_iff.mp hi).1; omega)⟩
    have e1 : pAt l p i = p r := by
      unfold pAt
      rw [er]
    have e2 : vAt l f i = f r := by
      unfold vAt
      rw [er]
    rw [e2]
    exact he i x r H1 e hi er (e1.symm.trans hf)
theorem el_lcM (l : List α) (f : α → V) (h : Ev tl σ H (.ref a)) (hx : SqL K H a xs) (hl : xs.length = l.length) (hz : l.length ≤ 40000) (hw : ∀ x, wipe ((wipe σ vs).set j (some x)) vs = wipe σ vs)
    (he : ∀ (i : Nat) (x : V) (r : α) H1, Ex H H1 → xs[i]? = some x → l[i]? = some r → Ev te ((wipe σ vs).set j (some x)) H1 (f r)) : EvL (tLc (iList K tl) (gName j) tYes te vs) σ H (l.map f) := by
  have := el_lcF (K := K) (t := tYes) l (fun _ => true) f h hx hl hz hw (fun i x r H1 e hi er => fun H2 _ Q q => q H2 (Ex.refl H2)) (fun i x r H1 e hi er _ => he i x r H1 e hi er)
  rwa [List.filter_eq_self.mpr fun _ _ => rfl] at this
/-- over a new list -/
theorem el_lcNF (l : List α) (p : α → Bool) (f : α → V) (h : EvL tl σ H xs) (hl : xs.length = l.length) (hz : l.length ≤ 40000) (hw : ∀ x, wipe ((wipe σ vs).set j (some x)) vs = wipe σ vs)
    (ht : ∀ (i : Nat) (x : V) (r : α) H1, Ex H H1 → xs[i]? = some x → l[i]? = some r → EvT t ((wipe σ vs).set j (some x)) H1 (p r)) (he : ∀ (i : Nat) (x : V) (r : α) H1, Ex H H1 → xs[i]? = some x → l[i]? = some r → p r = true → Ev te ((wipe σ vs).set j (some x)) H1 (f r)) :
    EvL (tLc (iList K tl) (gName j) t te vs) σ H ((l.filter p).map f) := by
  rw [← given_l (p := p) (f := f) hl]
  refine el_lcNL (pAt l p) (vAt l f) h (by omega) hw (fun i x H1 e hi => ?_) (fun i x H1 e hi hf => ?_)
  · obtain ⟨r, er⟩ : ∃ r, l[i]? = some r := ⟨_, List.getElem?_eq_getElem (by have := (List.getElem?_eq_some_iff.mp hi).1; omega)⟩
    have e1 : pAt l p i = p r := by
      unfold pAt
      rw [er]
    rw [e1]
    exact ht i x r H1 e hi er
  · obtain ⟨r, er⟩ : ∃ r, l[i]? = some r := ⟨_, List.getElem?_eq_getElem (by have := (List.getElem?_eq_some_iff.mp hi).1; omega)⟩
    have e1 : pAt l p i = p r := by
      unfold pAt
      rw [er]
    have e2 : vAt l f i = f r := by
      unfold vAt
      rw [er]
    rw [e2]
    exact he i x r H1 e hi er (e1.symm.trans hf)
theorem el_lcNM (l : List α) (f : α → V) (h : EvL tl σ H xs) (hl : xs.length = l.length) (hz : l.length ≤ 40000) (hw : ∀ x, wipe ((wipe σ vs).set j (some x)) vs = wipe σ vs)
    (he : ∀ (i : Nat) (x : V) (r : α) H1, Ex H H1 → xs[i]? = some x → l[i]? = some r → Ev te ((wipe σ vs).set j (some x)) H1 (f r)) : EvL (tLc (iList K tl) (gName j) tYes te vs) σ H (l.map f) := by
  have := el_lcNF (K := K) (t := tYes) l (fun _ => true) f h hl hz hw (fun i x r H1 e hi er => fun H2 _ Q q => q H2 (Ex.refl H2)) (fun i x r H1 e hi er _ => he i x r H1 e hi er)
  rwa [List.filter_eq_self.mpr fun _ _ => rfl] at this
theorem cutV_take {xs : List V} {k : Nat} (h : k ≤ xs.length) : cutV xs none (some (k : Int)) = xs.take k := by
  unfold cutV
  rw [HT.sIx_nat, HT.sIx_none, List.drop_zero, Nat.sub_zero, Nat.min_eq_left h]
theorem cutV_drop {xs : List V} {k : Nat} : cutV xs (some (k : Int)) none = xs.drop k := by
  unfold cutV
  rw [HT.sIx_nat, HT.sIx_none]
  by_cases h : k ≤ xs.length
  · rw [Nat.min_eq_left h]
    exact List.take_of_length_le (by rw [List.length_drop]; exact Nat.le_refl _)
  · rw [Nat.min_eq_right (by omega), List.drop_of_length_le (Nat.le_refl _), List.drop_of_length_le (by omega)]
    simp
/-- x in [..] of texts, made on the way -/
theorem ev_inTx {ta tb : TE} {x : Str} {ws : List Str} (ha : Ev ta σ H (.str x)) (hb : EvL tb σ H (ws.map V.str)) : Ev (tOp (rIn K false) ta tb) σ H (.bl (decide (x ∈ ws))) := by
  have := ev_opL (r := rIn K false) (z := .bl (inV (.str x) (ws.map V.str))) ha hb fun p H1 h e => rv_isL (sq_of h) rfl (KDd.flat_txt ws)
  rwa [KDd.inV_txt] at this
theorem ev_niTx {ta tb : TE} {x : Str} {ws : List Str} (ha : Ev ta σ H (.str x)) (hb : EvL tb σ H (ws.map V.str)) : Ev (tOp (rIn K true) ta tb) σ H (.bl (!decide (x ∈ ws))) := by
  have := ev_opL (r := rIn K true) (z := .bl (!inV (.str x) (ws.map V.str))) ha hb fun p H1 h e => rv_niL (sq_of h) rfl (KDd.flat_txt ws)
  rwa [KDd.inV_txt] at this
theorem passF {P : Program} {w : World} {X : Cx} : Passes (L2N.CX P w) X E0 := fun _ _ _ _ _ _ _ h => by
  obtain ⟨_, _, _, _, _, _, _, _, _, _, _, _, z⟩ := h
  exact z.elim
end
end KNew
namespace KNew
open PySem PySem.Spec PyProof.Rows L2 Evl KEv KSq KD TL
section
variable {α : Type} {K : PySem.W.Frag} {σ : L2.St} {H : Hp} {te : TE} {ta : TA} {j : Nat} {vs : List Nat} {f : α → V}
/-- over range(n), n items -/
theorem el_lcRM (l : List α) (f : α → V) (h : EvA ta σ H [.int (l.length : Int)]) (hz : l.length ≤ 40000) (hw : ∀ x, wipe ((wipe σ vs).set j (some x)) vs = wipe σ vs)
    (he : ∀ (i : Nat) (r : α) H1, Ex H H1 → l[i]? = some r → Ev te ((wipe σ vs).set j (some (.int (i : Int)))) H1 (f r)) : EvL (tLc (iRng1 ta) (gName j) tYes te vs) σ H (l.map f) := by
  have key : EvL (tLc (iRng1 ta) (gName j) tYes te vs) σ H (given ((l.length : Int)).toNat (pAt l fun _ => true) (vAt l f)) := by
    refine el_lcR1 (pAt l fun _ => true) (vAt l f) h ⟨by omega, by omega⟩ hw (fun i H1 e hi => ?_) (fun i H1 e hi hf => ?_)
    · obtain ⟨r, er⟩ : ∃ r, l[i]? = some r := ⟨_, List.getElem?_eq_getElem (by omega)⟩
      have e1 : pAt l (fun _ => true) i = true := by
        unfold pAt
        rw [er]
      rw [e1]
      exact fun H2 _ Q q => q H2 (Ex.refl H2)
    · obtain ⟨r, er⟩ : ∃ r, l[i]? = some r := ⟨_, List.getElem?_eq_getElem (by omega)⟩
      have e2 : vAt l f i = f r := by
        unfold vAt
        rw [er]
      rw [e2]
      exact he i r H1 e er
  rw [given_l (by simp), List.filter_eq_self.mpr fun _ _ => rfl] at key
  exact key
end
end KNew
-- E15
namespace K01
open PySem PySem.Spec PyProof.Rows L2 Evl KEv TL KDd KSq KSame KTxt KHot KSup KNew KRvT KD
/-! the law's first fault of the sorts -/
structure GenAt (P : Program) (w : World) (K : PySem.W.Frag) (mg : Str → Option Value) (base : Heap) (n : Nat) (x : Str) (ps : List Str) (sp : Sp) (f : Addr) (fd : FuncData) : Prop where
  F : FnOk P w K mg base CX0 n f fd ps sp
  g : mg x = some (.ref f)
  kp : PySem.W.keepIn K (.ref f) = true
  b : Binds K fd ps []
section
variable {P : Program} {w : World} {K : PySem.W.Frag} {mg : Str → Option Value} {base : Heap} {σ : L2.St} {H : Hp}
theorem DefAt.gen {i n : Nat} {x : Str} {ps : List Str} {sp : Sp} {f : Addr} {fd : FuncData} (D : DefAt K mg i x ps f fd) (F : FnOk P w K mg base CX0 n f fd ps sp) : GenAt P w K mg base n x ps sp f fd := ⟨F, D.g, D.F.kp, D.b⟩
/-- None or a tuple that tells a fault -/
def RetF (o : Option (EK × Str)) (H : Hp) (Q : VK) : Prop := match o with
  | none => RetV .non H Q
  | some (k, s) => ∀ p H', H p = none → Ex H H' → H' p = some (.tup [.str (nmE k), .str s]) → Q (.ref p) H'
theorem RowsAt.mono {α : Type} {f : Hp → Addr → α → Prop} {H' : Hp} {b : Addr} {rs : List α} (hf : ∀ p r, f H p r → f H' p r) (h : RowsAt f H b rs) (e : Ex H H') : RowsAt f H' b rs := by
  obtain ⟨ads, h1, h2, h3⟩ := h
  exact ⟨ads, e _ _ h1, h2, fun i p r h4 h5 => hf _ _ (h3 i p r h4 h5)⟩
theorem row_mono {H' : Hp} (e : Ex H H') (p : Addr) (r : Row) (h : RowAt H p r) : RowAt H' p r := e _ _ h
theorem sgn_mono {H' : Hp} (e : Ex H H') (p : Addr) (g : Sgn) (h : SgnAt H p g) : SgnAt H' p g := by
  obtain ⟨q, h1, h2⟩ := h
  exact ⟨q, e _ _ h1, e _ _ h2⟩
theorem rowsAt_mono {H' : Hp} {b : Addr} {rs : List Row} (h : RowsAt RowAt H b rs) (e : Ex H H') : RowsAt RowAt H' b rs := h.mono (row_mono e) e
theorem sgnsAt_mono {H' : Hp} {b : Addr} {rs : List Sgn} (h : RowsAt SgnAt H b rs) (e : Ex H H') : RowsAt SgnAt H' b rs := h.mono (sgn_mono e) e
variable {tb tk : TE} {b : Addr} {sorts : List Row} {signs : List Sgn} {k : Nat} {r : Row} {g : Sgn}
/-- sorts[k] -/
theorem rows_at {α : Type} {f : Hp → Addr → α → Prop} {rs : List α} {r : α} (hb : RowsAt f H b rs) (er : rs[k]? = some r) : ∃ ads : List Addr, ∃ p, H b = some (.lst (ads.map V.ref)) ∧ ads.length = rs.length ∧ ads[k]? = some p ∧ f H p r := by
  obtain ⟨ads, h1, h2, h3⟩ := hb
  obtain ⟨p, ep⟩ : ∃ p, ads[k]? = some p := ⟨_, List.getElem?_eq_getElem (by have := (List.getElem?_eq_some_iff.mp er).1; omega)⟩
  exact ⟨ads, p, h1, h2, ep, h3 k p r ep er⟩
theorem ev_rowIx {α : Type} {f : Hp → Addr → α → Prop} {rs : List α} {r : α} (hb : RowsAt f H b rs) (er : rs[k]? = some r) (h : Ev tb σ H (.ref b)) (hk : Ev tk σ H (.int (k : Int))) : ∃ p, Ev (tOp (rIxL K) tb tk) σ H (.ref p) ∧ f H p r := by
  obtain ⟨ads, p, h1, h2, ep, hp⟩ := rows_at hb er
  exact ⟨p, ev_op h hk (rv_ixL (sq_of h1) (atI_nat (by rw [List.getElem?_map, ep]; rfl))), hp⟩
theorem ev_row0 (hb : RowsAt RowAt H b sorts) (er : sorts[k]? = some r) (h : Ev tb σ H (.ref b)) (hk : Ev tk σ H (.int (k : Int))) : Ev (tOp (rIxL K) (tOp (rIxL K) tb tk) (tC (.int 0))) σ H (.str r.1) := by
  obtain ⟨p, h1, h2⟩ := ev_rowIx (K := K) hb er h hk
  exact ev_op h1 ev_c (rv_ixL (sq_of h2) (atI_nat (j := 0) rfl))
theorem ev_row1 (hb : RowsAt RowAt H b sorts) (er : sorts[k]? = some r) (h : Ev tb σ H (.ref b)) (hk : Ev tk σ H (.int (k : Int))) : Ev (tOp (rIxL K) (tOp (rIxL K) tb tk) (tC (.int 1))) σ H (.str r.2) := by
  obtain ⟨p, h1, h2⟩ := ev_rowIx (K := K) hb er h hk
  exact ev_op h1 ev_c (rv_ixL (sq_of h2) (atI_nat (j := 1) rfl))
/-- a row's address stands for the row -/
theorem ads_take {α : Type} {f : Hp → Addr → α → Prop} {rs : List α} {i m : Nat} {x : V} {r : α} {ads : List Addr} (h3 : ∀ (i : Nat) (p : Addr) (r : α), ads[i]? = some p → rs[i]? = some r → f H p r) (hx : ((ads.map V.ref).take m)[i]? = some x) (hr : (rs.take m)[i]? = some r) : ∃ p, x = .ref p ∧ f H p r := by
  have hi : i < m := by
    have := (List.getElem?_eq_some_iff.mp hr).1
    rw [List.length_take] at this
    omega
  rw [List.getElem?_take_of_lt hi] at hx hr
  rw [List.getElem?_map] at hx
  cases ep : ads[i]? with
  | none => rw [ep] at hx; cases hx
  | some p =>
    rw [ep] at hx
    exact ⟨p, (Option.some.inj hx).symm, h3 i p r ep hr⟩
theorem ads_at {α : Type} {f : Hp → Addr → α → Prop} {rs : List α} {i : Nat} {x : V} {r : α} {ads : List Addr} (h3 : ∀ (i : Nat) (p : Addr) (r : α), ads[i]? = some p → rs[i]? = some r → f H p r) (hx : (ads.map V.ref)[i]? = some x) (hr : rs[i]? = some r) : ∃ p, x = .ref p ∧ f H p r := by
  rw [List.getElem?_map] at hx
  cases ep : ads[i]? with
  | none => rw [ep] at hx; cases hx
  | some p =>
    rw [ep] at hx
    exact ⟨p, (Option.some.inj hx).symm, h3 i p r ep hr⟩
/-- [row[c] for row in rows[:k]], [row[c] for row in rows]: c a place that tells v of the row -/
theorem el_colTake {α : Type} {f : Hp → Addr → α → Prop} {rs : List α} {v : α → V} {c : Int} {tl : TE} {j : Nat} {vs : List Nat} (hm : ∀ (H H' : Hp) (p : Addr) (r : α), Ex H H' → f H p r → f H' p r) (hv : ∀ (H1 : Hp) (p : Addr) (r : α), f H1 p r → ∃ xs, H1 p = some (.lst xs) ∧ atI xs c = some (v r))
    (hb : RowsAt f H b rs) (h : Ev tl σ H (.ref b)) (hk : Ev tk σ H (.int (k : Int))) (hle : k ≤ rs.length) (hz : rs.length ≤ 40000) (hw : ∀ x, wipe ((wipe σ vs).set j (some x)) vs = wipe σ vs) (hj : ∀ x, ((wipe σ vs).set j (some x))[j]? = some (some x)) :
    EvL (tLc (iList K (tSl (rSlL K) tl tNoPart (tPart tk))) (gName j) tYes (tOp (rIxL K) (tVar j) (tC (.int c))) vs) σ H ((rs.take k).map v) := by
  obtain ⟨ads, h1, h2, h3⟩ := hb
  have hs : EvL (tSl (rSlL K) tl tNoPart (tPart tk)) σ H ((ads.map V.ref).take k) := by
    have := el_sl (K := K) h eo_none (eo_some hk) (sq_of h1)
    rwa [cutV_take (by rw [List.length_map]; omega)] at this
  refine el_lcNM (rs.take k) v hs (by simp [h2]) (by rw [List.length_take]; omega) hw fun i x r H1 e hx hr => ?_
  obtain ⟨p, rfl, hp⟩ := ads_take h3 hx hr
  obtain ⟨xs, q1, q2⟩ := hv _ _ _ (hm _ _ _ _ e hp)
  exact ev_op (ev_var (hj _)) ev_c (rv_ixL (sq_of q1) q2)
theorem el_col {α : Type} {f : Hp → Addr → α → Prop} {rs : List α} {v : α → V} {c : Int} {tl : TE} {j : Nat} {vs : List Nat} (hm : ∀ (H H' : Hp) (p : Addr) (r : α), Ex H H' → f H p r → f H' p r) (hv : ∀ (H1 : Hp) (p : Addr) (r : α), f H1 p r → ∃ xs, H1 p = some (.lst xs) ∧ atI xs c = some (v r))
    (hb : RowsAt f H b rs) (h : Ev tl σ H (.ref b)) (hz : rs.length ≤ 40000) (hw : ∀ x, wipe ((wipe σ vs).set j (some x)) vs = wipe σ vs) (hj : ∀ x, ((wipe σ vs).set j (some x))[j]? = some (some x)) :
    EvL (tLc (iList K tl) (gName j) tYes (tOp (rIxL K) (tVar j) (tC (.int c))) vs) σ H (rs.map v) := by
  obtain ⟨ads, h1, h2, h3⟩ := hb
  refine el_lcM rs v h (sq_of h1) (by simp [h2]) hz hw fun i x r H1 e hx hr => ?_
  obtain ⟨p, rfl, hp⟩ := ads_at h3 hx hr
  obtain ⟨xs, q1, q2⟩ := hv _ _ _ (hm _ _ _ _ e hp)
  exact ev_op (ev_var (hj _)) ev_c (rv_ixL (sq_of q1) q2)
theorem row_c0 (H1 : Hp) (p : Addr) (r : Row) (h : RowAt H1 p r) : ∃ xs, H1 p = some (.lst xs) ∧ atI xs 0 = some (.str r.1) := ⟨_, h, atI_nat (j := 0) rfl⟩
theorem row_c1 (H1 : Hp) (p : Addr) (r : Row) (h : RowAt H1 p r) : ∃ xs, H1 p = some (.lst xs) ∧ atI xs 1 = some (.str r.2) := ⟨_, h, atI_nat (j := 1) rfl⟩
theorem sgn_c0 (H1 : Hp) (p : Addr) (r : Sgn) (h : SgnAt H1 p r) : ∃ xs, H1 p = some (.lst xs) ∧ atI xs 0 = some (.str r.1) := by
  obtain ⟨q, h, _⟩ := h
  exact ⟨_, h, atI_nat (j := 0) rfl⟩
theorem sgn_c2 (H1 : Hp) (p : Addr) (r : Sgn) (h : SgnAt H1 p r) : ∃ xs, H1 p = some (.lst xs) ∧ atI xs 2 = some (.str r.2.2) := by
  obtain ⟨q, h, _⟩ := h
  exact ⟨_, h, atI_nat (j := 2) rfl⟩
def spFfs : Sp := fun vs H Q _ => ∃ (b : Addr) (sorts : List Row), vs = [.ref b] ∧ RowsAt RowAt H b sorts ∧ sorts.length ≤ 1000 ∧ (∀ r ∈ sorts, r.1.length ≤ 1000 ∧ r.2.length ≤ 1000) ∧ RetF (firstSorts sorts) H Q
theorem RetF.fault {D : Ends} {k0 : EK} {s0 : Str} {Q : VK} {te : TE} {H' : Hp} (hQ : D.rt = Q) (k : RetF (some (k0, s0)) H Q) (e : Ex H H') (h : Ev te σ H' (.str s0)) : tRet (tTup (tCons (tC (.str (nmE k0))) (tCons te tNil))) D σ H' :=
  s_retU (eu_tup (ea_cons ev_c (ea_cons h ea_nil)) (by simp)) fun p H2 hp e2 h2 => by
    rw [hQ]
    exact k p H2 (fresh_back e hp) (e.trans e2) h2
theorem one_sign {c : Str} (h : c.length = 1) : ∃ x, c = ⟨#[x]⟩ ∧ tl c = [x] := by
  obtain ⟨⟨cs⟩⟩ := c
  have h' : cs.length = 1 := h
  match cs, h' with
  | [x], _ => exact ⟨x, rfl, rfl⟩
theorem scFfs : FnScope ["sorts", "k", "row"] ["sorts"] (defScope (topS 27)) := ⟨rfl, rfl, rfl, by decide +kernel, rfl, by decide +kernel, by decide +kernel⟩
theorem ok_ffs {f fn : Addr} {fd fdn : FuncData} (D : DefAt K mg 27 "_law_first_fault_of_sorts" ["sorts"] f fd) (LN : GenAt P w K mg base 1 "_law_is_name" ["text"] spIsName fn fdn) (N : Nm mg) (M : NmS mg) : FnOk P w K mg base CX0 2 f fd ["sorts"] spFfs := by
  refine D.F.ok scFfs (fun vs H Q E h => ?_) (fun cdv A outer s H vs Q E hr h => ?_)
  · obtain ⟨b, sorts, rfl, _⟩ := h
    rfl
  · obtain ⟨b, sorts, rfl, hb, hz, hl, k⟩ := h
    refine ⟨_, (pss_cons (ps_if (PW.pt (pw_or (pt_cmpR op_lt (pe_callB (r := rLenS K) call_len_seq (by rfl) N.len PySem.boot_len (pa_cons (pv 0) pa_nil)) pe_int (nomark _)) (pw_or1 (pt_cmpR op_gt (pe_callB (r := rLenS K) call_len_seq (by rfl) N.len PySem.boot_len (pa_cons (pv 0) pa_nil)) pe_int (nomark _))))) (pss_one (ps_ret (pe_tup (pa_cons pe_str (pa_cons pe_str pa_nil))))) pss_nil) (pss_cons (ps_for PassesOwn.never rfl (pi_range1 (by rfl) M.range (pa_cons (pe_callB (r := rLenS K) call_len_seq (by rfl) N.len PySem.boot_len (pa_cons (pv 0) pa_nil)) pa_nil)) (pg_name (i := 1) scFfs.nd rfl (.inl rfl)) (pss_cons (ps_if (pt_not (pt_val (pe_call LN.F (hr.mono (by decide)) (by rfl) LN.g LN.kp LN.b .nil pass0 (pa_cons (pe_ix (r := rIxL K) ix_list (pe_ix (r := rIxL K) ix_list (pv 0) (pv 1) (fun _ _ => rfl)) pe_int (fun _ _ => rfl)) pa_nil)))) (pss_one (ps_ret (pe_tup (pa_cons pe_str (pa_cons (pe_ix (r := rIxL K) ix_list (pe_ix (r := rIxL K) ix_list (pv 0) (pv 1) (fun _ _ => rfl)) pe_int (fun _ _ => rfl)) pa_nil))))) pss_nil) (pss_cons (ps_if (pt_cmpR (r := rIn K false) op_in_seq (pe_ix (r := rIxL K) ix_list (pe_ix (r := rIxL K) ix_list (pv 0) (pv 1) (fun _ _ => rfl)) pe_int (fun _ _ => rfl)) (pe_lc (own := [("row", 2)]) (g := gName 2) rfl scFfs.nd (pi_list (pe_slice (r := rSlL K) sl_list (pv 0) po_none (po_some (pv 1)))) (blkOk_by (own := [("row", 2)]) (N := ["sorts", "k", "row"]) (sc := defScope (topS 27)) (by decide +kernel)) (fun _ _ _ _ _ => pg_name (i := 2) scFfs.nd rfl (.inl rfl) (hf := .inr rfl)) (fun _ _ _ _ _ => pts_nil) (fun _ _ _ _ _ => (pe_ix (r := rIxL K) ix_list (pv 2) pe_int (fun _ _ => rfl)))) rfl) (pss_one (ps_ret (pe_tup (pa_cons pe_str (pa_cons (pe_ix (r := rIxL K) ix_list (pe_ix (r := rIxL K) ix_list (pv 0) (pv 1) (fun _ _ => rfl)) pe_int (fun _ _ => rfl)) pa_nil))))) pss_nil) (pss_cons (ps_if (PW.pt (pw_or (pt_cmpR op_ne (pe_callB call_lenT (by rfl) N.len PySem.boot_len (pa_cons (pe_ix (r := rIxL K) ix_list (pe_ix (r := rIxL K) ix_list (pv 0) (pv 1) (fun _ _ => rfl)) pe_int (fun _ _ => rfl)) pa_nil)) pe_int (nomark _)) (pw_or1 (pt_cmpR op_niS (pe_ix (r := rIxL K) ix_list (pe_ix (r := rIxL K) ix_list (pv 0) (pv 1) (fun _ _ => rfl)) pe_int (fun _ _ => rfl)) pe_str rfl)))) (pss_one (ps_ret (pe_tup (pa_cons pe_str (pa_cons (pe_ix (r := rIxL K) ix_list (pe_ix (r := rIxL K) ix_list (pv 0) (pv 1) (fun _ _ => rfl)) pe_int (fun _ _ => rfl)) pa_nil))))) pss_nil) (pss_one (ps_if (pt_cmpR (r := rIn K false) op_in_seq (pe_ix (r := rIxL K) ix_list (pe_ix (r := rIxL K) ix_list (pv 0) (pv 1) (fun _ _ => rfl)) pe_int (fun _ _ => rfl)) (pe_lc (own := [("row", 2)]) (g := gName 2) rfl scFfs.nd (pi_list (pe_slice (r := rSlL K) sl_list (pv 0) po_none (po_some (pv 1)))) (blkOk_by (own := [("row", 2)]) (N := ["sorts", "k", "row"]) (sc := defScope (topS 27)) (by decide +kernel)) (fun _ _ _ _ _ => pg_name (i := 2) scFfs.nd rfl (.inl rfl) (hf := .inr rfl)) (fun _ _ _ _ _ => pts_nil) (fun _ _ _ _ _ => (pe_ix (r := rIxL K) ix_list (pv 2) pe_int (fun _ _ => rfl)))) rfl) (pss_one (ps_ret (pe_tup (pa_cons pe_str (pa_cons (pe_ix (r := rIxL K) ix_list (pe_ix (r := rIxL K) ix_list (pv 0) (pv 1) (fun _ _ => rfl)) pe_int (fun _ _ => rfl)) pa_nil))))) pss_nil)))))) (pss_one (ps_ret pe_non)))), ?_⟩
    obtain ⟨ads, hbl, hbn, hrow⟩ := id hb
    have lenS : (ads.map V.ref).length = sorts.length := by rw [List.length_map, hbn]
    have pure_row : ∀ (H1 H2 : Hp) (p : Addr) (r : Row), Ex H1 H2 → RowAt H1 p r → RowAt H2 p r := fun _ _ _ _ e h => row_mono e _ _ h
    cases c1 : decide (1 ≤ sorts.length ∧ sorts.length ≤ 8) with
    | false =>
      have c1' := of_decide_eq_false c1
      have ff : firstSorts sorts = some (EK.count, Str.ofString "sorts") := by unfold firstSorts; rw [c1]; rfl
      rw [ff] at k
      refine q_when (b := true) (et_is (et_or (a := decide ((sorts.length : Int) < 1)) (b := decide ((sorts.length : Int) > 8)) (et_is (et_test (ev_op (ev_len (xs := ads.map V.ref) (ev_var rfl) (sq_of hbl)) ev_c rv_I0)) (by rw [lenS])) fun _ => et_is (et_test (ev_op (ev_len (xs := ads.map V.ref) (ev_var rfl) (sq_of hbl)) ev_c rv_I0)) (by rw [lenS])) ?_) (fun _ H1 e1 => RetF.fault (k0 := .count) rfl k e1 ev_c) (fun z => by cases z)
      rw [← Bool.decide_or]
      exact decide_eq_true (by omega)
    | true =>
      have c1' := of_decide_eq_true c1
      have ff0 : firstSorts sorts = sortsFrom [] sorts := by unfold firstSorts; rw [c1]; rfl
      rw [ff0] at k
      refine q_when (b := false) (et_is (et_or (a := decide ((sorts.length : Int) < 1)) (b := decide ((sorts.length : Int) > 8)) (et_is (et_test (ev_op (ev_len (xs := ads.map V.ref) (ev_var rfl) (sq_of hbl)) ev_c rv_I0)) (by rw [lenS])) fun _ => et_is (et_test (ev_op (ev_len (xs := ads.map V.ref) (ev_var rfl) (sq_of hbl)) ev_c rv_I0)) (by rw [lenS])) ?_) (fun z => by cases z) (fun _ H1 e1 => ?_)
      · rw [← Bool.decide_or]
        exact decide_eq_false (by omega)
      refine q_forR1 (j := 1) (n := (sorts.length : Int)) (ea_cons (ev_is (ev_len (xs := ads.map V.ref) (ev_var rfl) (sq_of (e1 _ _ hbl))) (by rw [lenS])) ea_nil) ⟨by omega, by omega⟩ (fun i σ' H' => (∃ u1 u2, σ' = [some (.ref b), u1, u2]) ∧ Ex H H' ∧ sortsFrom [] sorts = sortsFrom (sorts.take i) (sorts.drop i))
        (fun H2 e2 => ⟨⟨_, _, rfl⟩, e1.trans e2, rfl⟩) (fun i σ' H2 hi p => ?_) (fun σ' H2 p => ?_)
      · obtain ⟨⟨u1, u2, rfl⟩, e2, hff⟩ := p
        have hi : i < sorts.length := by omega
        obtain ⟨r, er⟩ : ∃ r, sorts[i]? = some r := ⟨_, List.getElem?_eq_getElem hi⟩
        have zr := hl r (List.mem_of_getElem? er)
        rw [drop_at er] at hff
        have hb2 : ∀ {H3 : Hp}, Ex H2 H3 → RowsAt RowAt H3 b sorts := fun e => rowsAt_mono hb (e2.trans e)
        have n0 : ∀ {H3 : Hp}, Ex H2 H3 → Ev (tOp (rIxL K) (tOp (rIxL K) (tVar 0) (tVar 1)) (tC (.int 0))) [some (.ref b), some (.int i), u2] H3 (.str r.1) := fun e => ev_row0 (hb2 e) er (ev_var rfl) (ev_var rfl)
        have n1 : ∀ {H3 : Hp}, Ex H2 H3 → Ev (tOp (rIxL K) (tOp (rIxL K) (tVar 0) (tVar 1)) (tC (.int 1))) [some (.ref b), some (.int i), u2] H3 (.str r.2) := fun e => ev_row1 (hb2 e) er (ev_var rfl) (ev_var rfl)
        have col0 : ∀ {H3 : Hp}, Ex H2 H3 → EvL (tLc (iList K (tSl (rSlL K) (tVar 0) tNoPart (tPart (tVar 1)))) (gName 2) tYes (tOp (rIxL K) (tVar 2) (tC (.int 0))) [2]) [some (.ref b), some (.int i), u2] H3 (((sorts.take i).map (·.1)).map V.str) := fun e => by
          rw [List.map_map]
          exact el_colTake (f := RowAt) pure_row row_c0 (hb2 e) (ev_var rfl) (ev_var rfl) (by omega) (by omega) (fun _ => rfl) (fun _ => rfl)
        have col1 : ∀ {H3 : Hp}, Ex H2 H3 → EvL (tLc (iList K (tSl (rSlL K) (tVar 0) tNoPart (tPart (tVar 1)))) (gName 2) tYes (tOp (rIxL K) (tVar 2) (tC (.int 1))) [2]) [some (.ref b), some (.int i), u2] H3 (((sorts.take i).map (·.2)).map V.str) := fun e => by
          rw [List.map_map]
          exact el_colTake (f := RowAt) pure_row row_c1 (hb2 e) (ev_var rfl) (ev_var rfl) (by omega) (by omega) (fun _ => rfl) (fun _ => rfl)
        have stop : ∀ {k0 s0}, sortFault (sorts.take i) r.1 r.2 = some (k0, s0) → RetF (some (k0, s0)) H Q := fun h => by
          rw [hff, from_stop h] at k
          exact k
        cases b1 : nameB (tl r.1) with
        | false => exact q_when (b := true) (et_is (et_not (et_B (ev_call (z := .bl (nameB (tl r.1))) (ea_cons (n0 (Ex.refl _)) ea_nil) (fun H8 e8 Q q E => ⟨r.1, rfl, by omega, fun H9 e9 => q H9 e9⟩)))) (by rw [b1]; rfl)) (fun _ H3 e3 => RetF.fault (k0 := .name) rfl (stop (by unfold sortFault; rw [if_pos b1])) (e2.trans e3) (n0 e3)) (fun z => by cases z)
        | true =>
          refine q_when (b := false) (et_is (et_not (et_B (ev_call (z := .bl (nameB (tl r.1))) (ea_cons (n0 (Ex.refl _)) ea_nil) (fun H8 e8 Q q E => ⟨r.1, rfl, by omega, fun H9 e9 => q H9 e9⟩)))) (by rw [b1]; rfl)) (fun z => by cases z) (fun _ H3 e3 => ?_)
          have w1 : ¬ nameB (tl r.1) = false := by rw [b1]; decide
          cases b2 : decide (r.1 ∈ (sorts.take i).map (·.1)) with
          | true => exact q_when (b := true) (et_is (et_test (ev_inTx (n0 e3) (col0 e3))) b2) (fun _ H4 e4 => RetF.fault (k0 := .twice) rfl (stop (by unfold sortFault; rw [if_neg w1, if_pos b2])) (e2.trans (e3.trans e4)) (n0 (e3.trans e4))) (fun z => by cases z)
          | false =>
            refine q_when (b := false) (et_is (et_test (ev_inTx (n0 e3) (col0 e3))) b2) (fun z => by cases z) (fun _ H4 e4 => ?_)
            have w2 : ¬ decide (r.1 ∈ (sorts.take i).map (·.1)) = true := by rw [b2]; decide
            have e4 := e3.trans e4
            have lt : Ev (tCB rLenT (tCons (tOp (rIxL K) (tOp (rIxL K) (tVar 0) (tVar 1)) (tC (.int 1))) tNil)) [some (.ref b), some (.int i), u2] H4 (.int (r.2.length : Int)) := ev_lenT (n1 e4) (by omega)
            cases b3 : capB (tl r.2) with
            | false =>
              have hff3 := stop (k0 := .cap) (s0 := r.2) (by unfold sortFault; rw [if_neg w1, if_neg w2, if_pos b3])
              refine q_when (b := true) ?_ (fun _ H5 e5 => RetF.fault (k0 := .cap) rfl hff3 (e2.trans (e4.trans e5)) (n1 (e4.trans e5))) (fun z => by cases z)
              by_cases hc : r.2.length = 1
              · refine et_or (a := false) (b := true) (et_is (et_test (ev_op lt ev_c (rv_ne rfl))) (by simp [hc])) fun _ => ?_
                obtain ⟨c, ec0, ec1⟩ := one_sign hc
                have n1' := n1 e4
                rw [ec0] at n1'
                refine et_is (et_test (ev_op n1' ev_c rv_niS)) ?_
                rw [ec1] at b3
                have b3 : (decide (1 = 1) && decide (c ∈ tl capitals)) = false := b3
                have b3 : decide (c ∈ tl capitals) = false := by simpa using b3
                show (!decide (c ∈ tl capitals)) = _
                rw [b3]
                rfl
              · exact et_or (a := true) (b := true) (et_is (et_test (ev_op lt ev_c (rv_ne rfl))) (by simp; omega)) fun z => by cases z
            | true =>
              have hc : r.2.length = 1 := by
                unfold capB at b3
                rw [Bool.and_eq_true, decide_eq_true_eq] at b3
                rw [len_tl]
                exact b3.1
              obtain ⟨c, ec0, ec1⟩ := one_sign hc
              have w3 : ¬ capB (tl r.2) = false := by rw [b3]; decide
              refine q_when (b := false) ?_ (fun z => by cases z) (fun _ H5 e5 => ?_)
              · refine et_or (a := false) (b := false) (et_is (et_test (ev_op lt ev_c (rv_ne rfl))) (by simp [hc])) fun _ => ?_
                have n1' := n1 e4
                rw [ec0] at n1'
                refine et_is (et_test (ev_op n1' ev_c rv_niS)) ?_
                rw [ec1] at b3
                have b3 : (decide (1 = 1) && decide (c ∈ tl capitals)) = true := b3
                have b3 : decide (c ∈ tl capitals) = true := by simpa using b3
                show (!decide (c ∈ tl capitals)) = _
                rw [b3]
                rfl
              have e5 := e4.trans e5
              cases b4 : decide (r.2 ∈ (sorts.take i).map (·.2)) with
              | true => exact s_when (b := true) (et_is (et_test (ev_inTx (n1 e5) (col1 e5))) b4) (fun _ H6 e6 => RetF.fault (k0 := .twice) rfl (stop (by unfold sortFault; rw [if_neg w1, if_neg w2, if_neg w3, if_pos b4])) (e2.trans (e5.trans e6)) (n1 (e5.trans e6))) (fun z => by cases z)
              | false =>
                refine s_when (b := false) (et_is (et_test (ev_inTx (n1 e5) (col1 e5))) b4) (fun z => by cases z) (fun _ H6 e6 => ⟨⟨_, _, rfl⟩, e2.trans (e5.trans e6), ?_⟩)
                have w4 : ¬ decide (r.2 ∈ (sorts.take i).map (·.2)) = true := by rw [b4]; decide
                have hn : sortFault (sorts.take i) r.1 r.2 = none := by unfold sortFault; rw [if_neg w1, if_neg w2, if_neg w3, if_neg w4]
                rw [hff, from_step hn, take_at er]
      · obtain ⟨⟨u1, u2, rfl⟩, e2, hff⟩ := p
        have : sortsFrom [] sorts = none := by
          rw [hff, List.drop_of_length_le (by omega)]
          rfl
        rw [this] at k
        exact s_ret ev_c fun H3 e3 => k H3 (e2.trans e3)
end
end K01
-- E16
namespace K01
open PySem PySem.Spec PyProof.Rows L2 Evl KEv TL KDd KSq KSame KTxt KHot KSup KNew KRvT KD
/-! the law's first fault -/
section
variable {P : Program} {w : World} {K : PySem.W.Frag} {mg : Str → Option Value} {base : Heap} {σ : L2.St} {H : Hp} {tb tk : TE} {b : Addr} {sorts : List Row} {signs : List Sgn} {k : Nat} {r : Row} {g : Sgn}
theorem RetF.mono {o : Option (EK × Str)} {H' : Hp} {Q : VK} (h : RetF o H Q) (e : Ex H H') : RetF o H' Q := by
  cases o with
  | none => exact fun H2 e2 => h H2 (e.trans e2)
  | some f => exact fun p H2 hp e2 => h p H2 (fresh_back e hp) (e.trans e2)
theorem ev_sgn0 (hb : RowsAt SgnAt H b signs) (er : signs[k]? = some g) (h : Ev tb σ H (.ref b)) (hk : Ev tk σ H (.int (k : Int))) : Ev (tOp (rIxL K) (tOp (rIxL K) tb tk) (tC (.int 0))) σ H (.str g.1) := by
  obtain ⟨p, h1, q, h2, _⟩ := ev_rowIx (K := K) hb er h hk
  exact ev_op h1 ev_c (rv_ixL (sq_of h2) (atI_nat (j := 0) rfl))
theorem ev_sgn2 (hb : RowsAt SgnAt H b signs) (er : signs[k]? = some g) (h : Ev tb σ H (.ref b)) (hk : Ev tk σ H (.int (k : Int))) : Ev (tOp (rIxL K) (tOp (rIxL K) tb tk) (tC (.int 2))) σ H (.str g.2.2) := by
  obtain ⟨p, h1, q, h2, _⟩ := ev_rowIx (K := K) hb er h hk
  exact ev_op h1 ev_c (rv_ixL (sq_of h2) (atI_nat (j := 2) rfl))
theorem ev_sgn1 (hb : RowsAt SgnAt H b signs) (er : signs[k]? = some g) (h : Ev tb σ H (.ref b)) (hk : Ev tk σ H (.int (k : Int))) : ∃ q, Ev (tOp (rIxL K) (tOp (rIxL K) tb tk) (tC (.int 1))) σ H (.ref q) ∧ H q = some (.lst (g.2.1.map V.str)) := by
  obtain ⟨p, h1, q, h2, h3⟩ := ev_rowIx (K := K) hb er h hk
  exact ⟨q, ev_op h1 ev_c (rv_ixL (sq_of h2) (atI_nat (j := 1) rfl)), h3⟩
def spFf : Sp := fun vs H Q _ => ∃ (b c : Addr) (sorts : List Row) (signs : List Sgn), vs = [.ref b, .ref c] ∧ RowsAt RowAt H b sorts ∧ RowsAt SgnAt H c signs ∧ sorts.length ≤ 1000 ∧ signs.length ≤ 1000 ∧ (∀ r ∈ sorts, r.1.length ≤ 1000 ∧ r.2.length ≤ 1000) ∧ (∀ g ∈ signs, g.1.length ≤ 1000 ∧ g.2.1.length ≤ 1000) ∧ RetF (firstFault sorts signs) H Q
theorem el_catVL {ta : TE} {a : Addr} {xs ys : List V} (ha : Ev ta σ H (.ref a)) (hb : EvL tb σ H ys) (h1 : H a = some (.lst xs)) (hl : xs.length + ys.length ≤ 100000) : EvL (tOp rCat ta tb) σ H (xs ++ ys) := fun H1 e Q q =>
  ha H1 e _ fun H2 e2 => hb H2 (e.trans e2) _ fun b H3 h2 e3 hb => ⟨a, b, xs, ys, rfl, rfl, e3 _ _ (e2 _ _ (e _ _ h1)), hb, sz_of hl, fun p hp => q p _ (fresh_back (e2.trans e3) hp) ((e2.trans e3).trans (Ex.new hp)) upd_same⟩
theorem scFf : FnScope ["sorts", "signs", "k", "row", "name"] ["sorts", "signs"] (defScope (topS 28)) := ⟨rfl, rfl, rfl, by decide +kernel, rfl, by decide +kernel, by decide +kernel⟩
theorem ok_ff {f fn fs : Addr} {fd fdn fds : FuncData} (D : DefAt K mg 28 "_law_first_fault" ["sorts", "signs"] f fd) (LN : GenAt P w K mg base 1 "_law_is_name" ["text"] spIsName fn fdn) (FS : GenAt P w K mg base 2 "_law_first_fault_of_sorts" ["sorts"] spFfs fs fds) (N : Nm mg) (M : NmS mg) : FnOk P w K mg base CX0 3 f fd ["sorts", "signs"] spFf := by
  refine D.F.ok scFf (fun vs H Q E h => ?_) (fun cdv A outer s H vs Q E hr h => ?_)
  · obtain ⟨b, c, sorts, signs, rfl, _⟩ := h
    rfl
  · obtain ⟨b, c, sorts, signs, rfl, hb, hc, z1, z2, z3, z4, k⟩ := h
    refine ⟨_, (pss_cons (ps_if (pt_cmpR op_notNon (pe_call FS.F (hr.mono (by decide)) (by rfl) FS.g FS.kp FS.b .nil pass0 (pa_cons (pv 0) pa_nil)) pe_non (nomark _)) (pss_one (ps_ret (pe_call FS.F (hr.mono (by decide)) (by rfl) FS.g FS.kp FS.b .nil pass0 (pa_cons (pv 0) pa_nil)))) pss_nil) (pss_cons (ps_if (pt_cmpR op_gt (pe_callB (r := rLenS K) call_len_seq (by rfl) N.len PySem.boot_len (pa_cons (pv 1) pa_nil)) pe_int (nomark _)) (pss_one (ps_ret (pe_tup (pa_cons pe_str (pa_cons pe_str pa_nil))))) pss_nil) (pss_cons (ps_for PassesOwn.never rfl (pi_range1 (by rfl) M.range (pa_cons (pe_callB (r := rLenS K) call_len_seq (by rfl) N.len PySem.boot_len (pa_cons (pv 1) pa_nil)) pa_nil)) (pg_name (i := 2) scFf.nd rfl (.inl rfl)) (pss_cons (ps_if (pt_not (pt_val (pe_call LN.F (hr.mono (by decide)) (by rfl) LN.g LN.kp LN.b .nil pass0 (pa_cons (pe_ix (r := rIxL K) ix_list (pe_ix (r := rIxL K) ix_list (pv 1) (pv 2) (fun _ _ => rfl)) pe_int (fun _ _ => rfl)) pa_nil)))) (pss_one (ps_ret (pe_tup (pa_cons pe_str (pa_cons (pe_ix (r := rIxL K) ix_list (pe_ix (r := rIxL K) ix_list (pv 1) (pv 2) (fun _ _ => rfl)) pe_int (fun _ _ => rfl)) pa_nil))))) pss_nil) (pss_cons (ps_if (pt_cmpR (r := rIn K false) op_in_seq (pe_ix (r := rIxL K) ix_list (pe_ix (r := rIxL K) ix_list (pv 1) (pv 2) (fun _ _ => rfl)) pe_int (fun _ _ => rfl)) (pe_lc (own := [("row", 3)]) (g := gName 3) rfl scFf.nd (pi_list (pe_slice (r := rSlL K) sl_list (pv 1) po_none (po_some (pv 2)))) (blkOk_by (own := [("row", 3)]) (N := ["sorts", "signs", "k", "row", "name"]) (sc := defScope (topS 28)) (by decide +kernel)) (fun _ _ _ _ _ => pg_name (i := 3) scFf.nd rfl (.inl rfl) (hf := .inr rfl)) (fun _ _ _ _ _ => pts_nil) (fun _ _ _ _ _ => (pe_ix (r := rIxL K) ix_list (pv 3) pe_int (fun _ _ => rfl)))) rfl) (pss_one (ps_ret (pe_tup (pa_cons pe_str (pa_cons (pe_ix (r := rIxL K) ix_list (pe_ix (r := rIxL K) ix_list (pv 1) (pv 2) (fun _ _ => rfl)) pe_int (fun _ _ => rfl)) pa_nil))))) pss_nil) (pss_cons (ps_if (pt_cmpR op_gt (pe_callB (r := rLenS K) call_len_seq (by rfl) N.len PySem.boot_len (pa_cons (pe_ix (r := rIxL K) ix_list (pe_ix (r := rIxL K) ix_list (pv 1) (pv 2) (fun _ _ => rfl)) pe_int (fun _ _ => rfl)) pa_nil)) pe_int (nomark _)) (pss_one (ps_ret (pe_tup (pa_cons pe_str (pa_cons pe_str pa_nil))))) pss_nil) (pss_one (ps_for PassesOwn.never rfl (pi_list (pe_op (r := rCat) op_cat (pe_ix (r := rIxL K) ix_list (pe_ix (r := rIxL K) ix_list (pv 1) (pv 2) (fun _ _ => rfl)) pe_int (fun _ _ => rfl)) (pe_lst (pa_cons (pe_ix (r := rIxL K) ix_list (pe_ix (r := rIxL K) ix_list (pv 1) (pv 2) (fun _ _ => rfl)) pe_int (fun _ _ => rfl)) pa_nil)))) (pg_name (i := 4) scFf.nd rfl (.inl rfl)) (pss_one (ps_if (pt_cmpR (r := rIn K true) op_notIn_seq (pv 4) (pe_lc (own := [("row", 3)]) (g := gName 3) rfl scFf.nd (pi_list (pv 0)) (blkOk_by (own := [("row", 3)]) (N := ["sorts", "signs", "k", "row", "name"]) (sc := defScope (topS 28)) (by decide +kernel)) (fun _ _ _ _ _ => pg_name (i := 3) scFf.nd rfl (.inl rfl) (hf := .inr rfl)) (fun _ _ _ _ _ => pts_nil) (fun _ _ _ _ _ => (pe_ix (r := rIxL K) ix_list (pv 3) pe_int (fun _ _ => rfl)))) rfl) (pss_one (ps_ret (pe_tup (pa_cons pe_str (pa_cons (pv 4) pa_nil))))) pss_nil)))))))) (pss_one (ps_ret pe_non))))), ?_⟩
    obtain ⟨gds, hcl, hcn, hsgn⟩ := id hc
    have lenG : (gds.map V.ref).length = signs.length := by rw [List.length_map, hcn]
    have pr : ∀ (H1 H2 : Hp) (p : Addr) (r : Row), Ex H1 H2 → RowAt H1 p r → RowAt H2 p r := fun _ _ _ _ e h => row_mono e _ _ h
    have ps : ∀ (H1 H2 : Hp) (p : Addr) (r : Sgn), Ex H1 H2 → SgnAt H1 p r → SgnAt H2 p r := fun _ _ _ _ e h => sgn_mono e _ _ h
    have fs0 : EvT (tTest (tOp rNotN (tCall spFfs [] E0 (tCons (tVar 0) tNil)) (tC .non))) (start ["sorts", "signs", "k", "row", "name"] [V.ref b, V.ref c]) H (firstSorts sorts).isSome := fun H1 e1 Q1 q1 => by
      refine ⟨_, rfl, b, sorts, rfl, rowsAt_mono hb e1, z1, z3, ?_⟩
      cases ho : firstSorts sorts with
      | none =>
        rw [ho] at q1
        exact fun H2 e2 => ⟨rfl, _, rfl, q1 H2 e2⟩
      | some f =>
        rw [ho] at q1
        exact fun p H2 hp e2 h2 => ⟨rfl, _, rfl, q1 H2 e2⟩
    cases ho : firstSorts sorts with
    | some f =>
      have ff : firstFault sorts signs = some f := by unfold firstFault; rw [ho]
      rw [ff] at k
      refine q_when (b := true) (et_is fs0 (by rw [ho]; rfl)) (fun _ H1 e1 => ?_) (fun z => by cases z)
      refine ⟨_, rfl, b, sorts, rfl, rowsAt_mono hb e1, z1, z3, ?_⟩
      rw [ho]
      exact k.mono e1
    | none =>
      refine q_when (b := false) (et_is fs0 (by rw [ho]; rfl)) (fun z => by cases z) (fun _ H1 e1 => ?_)
      cases c2 : decide (12 < signs.length) with
      | true =>
        have c2' := of_decide_eq_true c2
        have ff : firstFault sorts signs = some (EK.count, Str.ofString "signs") := by
          unfold firstFault
          rw [ho, c2]
          rfl
        rw [ff] at k
        exact q_when (b := true) (et_is (et_test (ev_op (ev_len (xs := gds.map V.ref) (ev_var rfl) (sq_of (e1 _ _ hcl))) ev_c rv_I0)) (by rw [lenG]; exact decide_eq_true (by omega))) (fun _ H2 e2 => RetF.fault (k0 := .count) rfl k (e1.trans e2) ev_c) (fun z => by cases z)
      | false =>
        have c2' := of_decide_eq_false c2
        have ff0 : firstFault sorts signs = signsFrom sorts [] signs := by
          unfold firstFault
          rw [ho, c2]
          rfl
        rw [ff0] at k
        refine q_when (b := false) (et_is (et_test (ev_op (ev_len (xs := gds.map V.ref) (ev_var rfl) (sq_of (e1 _ _ hcl))) ev_c rv_I0)) (by rw [lenG]; exact decide_eq_false (by omega))) (fun z => by cases z) (fun _ H2 e2 => ?_)
        have e2 := e1.trans e2
        refine q_forR1 (j := 2) (n := (signs.length : Int)) (ea_cons (ev_is (ev_len (xs := gds.map V.ref) (ev_var rfl) (sq_of (e2 _ _ hcl))) (by rw [lenG])) ea_nil) ⟨by omega, by omega⟩ (fun i σ' H' => (∃ u1 u2 u3, σ' = [some (.ref b), some (.ref c), u1, u2, u3]) ∧ Ex H H' ∧ signsFrom sorts [] signs = signsFrom sorts ((signs.take i).map (·.1)) (signs.drop i))
          (fun H3 e3 => ⟨⟨_, _, _, rfl⟩, e2.trans e3, rfl⟩) (fun i σ' H3 hi p => ?_) (fun σ' H3 p => ?_)
        · obtain ⟨⟨u1, u2, u3, rfl⟩, e3, hff⟩ := p
          have hi : i < signs.length := by omega
          obtain ⟨g, er⟩ : ∃ g, signs[i]? = some g := ⟨_, List.getElem?_eq_getElem hi⟩
          have zg := z4 g (List.mem_of_getElem? er)
          rw [drop_at er] at hff
          have hc2 : ∀ {H4 : Hp}, Ex H3 H4 → RowsAt SgnAt H4 c signs := fun e => sgnsAt_mono hc (e3.trans e)
          have n0 : ∀ {H4 : Hp}, Ex H3 H4 → Ev (tOp (rIxL K) (tOp (rIxL K) (tVar 1) (tVar 2)) (tC (.int 0))) [some (.ref b), some (.ref c), some (.int i), u2, u3] H4 (.str g.1) := fun e => ev_sgn0 (hc2 e) er (ev_var rfl) (ev_var rfl)
          have n2 : ∀ {H4 : Hp}, Ex H3 H4 → Ev (tOp (rIxL K) (tOp (rIxL K) (tVar 1) (tVar 2)) (tC (.int 2))) [some (.ref b), some (.ref c), some (.int i), u2, u3] H4 (.str g.2.2) := fun e => ev_sgn2 (hc2 e) er (ev_var rfl) (ev_var rfl)
          have n1 : ∀ {H4 : Hp}, Ex H3 H4 → ∃ q, Ev (tOp (rIxL K) (tOp (rIxL K) (tVar 1) (tVar 2)) (tC (.int 1))) [some (.ref b), some (.ref c), some (.int i), u2, u3] H4 (.ref q) ∧ H4 q = some (.lst (g.2.1.map V.str)) := fun e => ev_sgn1 (hc2 e) er (ev_var rfl) (ev_var rfl)
          have col0 : ∀ {H4 : Hp}, Ex H3 H4 → EvL (tLc (iList K (tSl (rSlL K) (tVar 1) tNoPart (tPart (tVar 2)))) (gName 3) tYes (tOp (rIxL K) (tVar 3) (tC (.int 0))) [3]) [some (.ref b), some (.ref c), some (.int i), u2, u3] H4 (((signs.take i).map (·.1)).map V.str) := fun e => by
            rw [List.map_map]
            exact el_colTake (f := SgnAt) ps sgn_c0 (hc2 e) (ev_var rfl) (ev_var rfl) (by omega) (by omega) (fun _ => rfl) (fun _ => rfl)
          have stop : ∀ {k0 s0}, signFault sorts ((signs.take i).map (·.1)) g = some (k0, s0) → RetF (some (k0, s0)) H Q := fun h => by
            rw [hff, sign_stop h] at k
            exact k
          cases b1 : nameB (tl g.1) with
          | false => exact q_when (b := true) (et_is (et_not (et_B (ev_call (z := .bl (nameB (tl g.1))) (ea_cons (n0 (Ex.refl _)) ea_nil) (fun H8 e8 Q q E => ⟨g.1, rfl, by omega, fun H9 e9 => q H9 e9⟩)))) (by rw [b1]; rfl)) (fun _ H4 e4 => RetF.fault (k0 := .name) rfl (stop (by unfold signFault; rw [if_pos b1])) (e3.trans e4) (n0 e4)) (fun z => by cases z)
          | true =>
            refine q_when (b := false) (et_is (et_not (et_B (ev_call (z := .bl (nameB (tl g.1))) (ea_cons (n0 (Ex.refl _)) ea_nil) (fun H8 e8 Q q E => ⟨g.1, rfl, by omega, fun H9 e9 => q H9 e9⟩)))) (by rw [b1]; rfl)) (fun z => by cases z) (fun _ H4 e4 => ?_)
            have w1 : ¬ nameB (tl g.1) = false := by rw [b1]; decide
            cases b2 : decide (g.1 ∈ (signs.take i).map (·.1)) with
            | true => exact q_when (b := true) (et_is (et_test (ev_inTx (n0 e4) (col0 e4))) b2) (fun _ H5 e5 => RetF.fault (k0 := .twice) rfl (stop (by unfold signFault; rw [if_neg w1, if_pos b2])) (e3.trans (e4.trans e5)) (n0 (e4.trans e5))) (fun z => by cases z)
            | false =>
              refine q_when (b := false) (et_is (et_test (ev_inTx (n0 e4) (col0 e4))) b2) (fun z => by cases z) (fun _ H5 e5 => ?_)
              have w2 : ¬ decide (g.1 ∈ (signs.take i).map (·.1)) = true := by rw [b2]; decide
              have e5 := e4.trans e5
              obtain ⟨q5, n15, hq5⟩ := n1 e5
              have le : Ev (tCB (rLenS K) (tCons (tOp (rIxL K) (tOp (rIxL K) (tVar 1) (tVar 2)) (tC (.int 1))) tNil)) [some (.ref b), some (.ref c), some (.int i), u2, u3] H5 (.int (g.2.1.length : Int)) := ev_is (ev_len n15 (sq_of hq5)) (by rw [List.length_map])
              cases b3 : decide (4 < g.2.1.length) with
              | true =>
                have b3' := of_decide_eq_true b3
                exact q_when (b := true) (et_is (et_test (ev_op le ev_c rv_I0)) (decide_eq_true (by omega))) (fun _ H6 e6 => RetF.fault (k0 := .count) rfl (stop (by unfold signFault; rw [if_neg w1, if_neg w2, if_pos b3])) (e3.trans (e5.trans e6)) ev_c) (fun z => by cases z)
              | false =>
                have b3' := of_decide_eq_false b3
                refine q_when (b := false) (et_is (et_test (ev_op le ev_c rv_I0)) (decide_eq_false (by omega))) (fun z => by cases z) (fun _ H6 e6 => ?_)
                have w3 : ¬ decide (4 < g.2.1.length) = true := by rw [b3]; decide
                have e6 := e5.trans e6
                have hsf : signFault sorts ((signs.take i).map (·.1)) g = ((g.2.1 ++ [g.2.2]).find? fun k => !decide (k ∈ sorts.map (·.1))).map fun k => (EK.unk, k) := by unfold signFault; rw [if_neg w1, if_neg w2, if_neg w3]
                obtain ⟨q6, n16, hq6⟩ := n1 e6
                have hel : EvL (tOp rCat (tOp (rIxL K) (tOp (rIxL K) (tVar 1) (tVar 2)) (tC (.int 1))) (tLst (tCons (tOp (rIxL K) (tOp (rIxL K) (tVar 1) (tVar 2)) (tC (.int 2))) tNil))) [some (.ref b), some (.ref c), some (.int i), u2, u3] H6 ((g.2.1 ++ [g.2.2]).map V.str) := by
                  rw [List.map_append]
                  exact el_catVL n16 (el_lst (ea_cons (n2 e6) ea_nil) (by simp)) hq6 (by simp; omega)
                refine s_forNL (g := gName 4) hel (fun q m σ' H' => (∃ u2 u3, σ' = [some (.ref b), some (.ref c), some (.int i), u2, u3]) ∧ Ex H H' ∧ H' q = some (.lst ((g.2.1 ++ [g.2.2]).map V.str)) ∧ ∀ y ∈ (g.2.1 ++ [g.2.2]).take m, decide (y ∈ sorts.map (·.1)) = true)
                  (fun q H7 hq e7 h7 => ⟨⟨_, _, rfl⟩, e3.trans (e6.trans e7), h7, fun y hy => by simp at hy⟩) (fun q m σ' H' _ p => sq_of p.2.2.1) (fun q m x σ' H7 hx p => ?_) (fun q σ' H7 p => ?_)
                · obtain ⟨⟨u4, u5, rfl⟩, e7, h7, hall⟩ := p
                  rw [List.getElem?_map] at hx
                  cases ek : (g.2.1 ++ [g.2.2])[m]? with
                  | none => rw [ek] at hx; cases hx
                  | some y =>
                    rw [ek] at hx
                    obtain rfl : V.str y = x := Option.some.inj hx
                    have cols : EvL (tLc (iList K (tVar 0)) (gName 3) tYes (tOp (rIxL K) (tVar 3) (tC (.int 0))) [3]) [some (.ref b), some (.ref c), some (.int i), u4, some (.str y)] H7 ((sorts.map (·.1)).map V.str) := by
                      rw [List.map_map]
                      exact el_col (f := RowAt) pr row_c0 (rowsAt_mono hb e7) (ev_var rfl) (by omega) (fun _ => rfl) (fun _ => rfl)
                    cases b5 : decide (y ∈ sorts.map (·.1)) with
                    | false => exact s_when (b := true) (et_is (et_test (ev_niTx (ev_var rfl) cols)) (by rw [b5]; rfl)) (fun _ H8 e8 => RetF.fault (k0 := .unk) rfl (stop (by rw [hsf, find_first (fun z hz => by rw [hall z hz]; rfl) ek (by rw [b5]; rfl)]; rfl)) (e7.trans e8) (ev_var rfl)) (fun z => by cases z)
                    | true =>
                      refine s_when (b := false) (et_is (et_test (ev_niTx (ev_var rfl) cols)) (by rw [b5]; rfl)) (fun z => by cases z) (fun _ H8 e8 => ⟨⟨_, _, rfl⟩, e7.trans e8, e8 _ _ h7, fun z hz => ?_⟩)
                      rw [take_at ek] at hz
                      rcases List.mem_append.mp hz with v | v
                      · exact hall z v
                      · rw [List.mem_singleton.mp v]
                        exact b5
                · obtain ⟨⟨u4, u5, rfl⟩, e7, h7, hall⟩ := p
                  have hn : signFault sorts ((signs.take i).map (·.1)) g = none := by
                    rw [hsf, List.find?_eq_none.mpr fun z hz => by
                      rw [hall z (by rw [List.take_of_length_le (by simp)]; exact hz)]
                      decide]
                    rfl
                  refine ⟨⟨_, _, _, rfl⟩, e7, ?_⟩
                  rw [hff, sign_step hn, take_at er, List.map_append]
                  rfl
        · obtain ⟨⟨u1, u2, u3, rfl⟩, e3, hff⟩ := p
          have : signsFrom sorts [] signs = none := by
            rw [hff, List.drop_of_length_le (by omega)]
            rfl
          rw [this] at k
          exact s_ret ev_c fun H4 e4 => k H4 (e3.trans e4)
end
end K01
-- KTry
/-! within a try: an object made, a method called; a method called with a keyword -/
namespace KTry
open PySem PySem.Spec PyProof.Rows L2 KNew
theorem takes0N {X : Cx} : L2N.Takes X (fun _ _ _ _ => False) := fun _ _ x => by
  obtain ⟨_, _, _, _, _, _, _, _, _, _, _, _, _, _, _, _, z⟩ := x
  exact z.elim
section
variable {X : Cx} {CX : CXT} {k : Nat} {f C : Addr} {fd : FuncData} {ps ks : List Str} {sp : Sp} {dvs : List V} {ds : List Value} {E : L2.St → XK} {x m : Str} {p pos apos : Pos} {e o : Expr} {es : List Expr} {ta : TE} {t tk : TA} {kws : List Keyword} {n : Nat} {g : List Value → List Value → List Value} {gV : List V → List V → List V}
def tMakeS (C : Addr) (sp : Sp) (dvs : List V) (E : L2.St → XK) (t : TA) : TE := fun σ H Q => t σ H fun vs H1 => ∀ x dx, H1 x = none → H1 dx = none → dx ≠ x →
  sp (.ref x :: (vs ++ dvs)) (upd (upd H1 dx (.own x)) x (.ins C dx [])) (fun v H2 => v = .non ∧ Q (.ref x) H2) (E σ)
theorem run_makeS {pins : List (Addr × Obj)} {σ : L2.St} {H : Hp} {s : Shared} {Q : VK} {us : List Value} {vs : List V} (M : Mk X.K C f) (F : FnOk X.prog X.w X.K X.mg X.base CX k f fd ps sp) (hr : Room (k + 1) X.A) (hb : Binds X.K fd ps ds) (hd : Vals dvs ds)
    (hx : PassesAt CX X σ (E σ)) (I : L2.Inv X pins σ H s) (r : Vals vs us)
    (h : ∀ x dx, H x = none → H dx = none → dx ≠ x → sp (.ref x :: (vs ++ dvs)) (upd (upd H dx (.own x)) x (.ins C dx [])) (fun v H2 => v = .non ∧ Q (.ref x) H2) (E σ)) : wpAny (model X.prog X.w) X.A (call (.ref C) us) (EP X pins σ Q) X.xe s := by
  have q0 := h (s.heap.objs.size + 1) s.heap.objs.size (I.hok.fresh (Nat.le_succ _)) (I.hok.fresh (Nat.le_refl _)) (Nat.ne_of_lt (Nat.lt_succ_self _))
  have J := Inv.made (C := C) I
  have r2 : Vals (V.ref (s.heap.objs.size + 1) :: (vs ++ dvs)) (Value.ref (s.heap.objs.size + 1) :: (us ++ ds)) := .cons rfl (r.append hd)
  have hl : (Value.ref (s.heap.objs.size + 1) :: us ++ ds).length = ps.length := by
    have z := r2.length
    rw [F.len _ _ _ _ q0] at z
    exact z.symm
  have hcode := fun (RR : Result → Shared → Prop) hm => codeAny_mono (R' := RR) (F.run _ X.stack _ _ ⟨Value.ref (s.heap.objs.size + 1) :: us, []⟩ (Value.ref (s.heap.objs.size + 1) :: (us ++ ds)) _ _ (E σ) (hr.make C us []) (J.env0.make C us []) (hb _ (Value.ref (s.heap.objs.size + 1) :: us) J.kIn hl) r2 q0) hm
  refine wpAny_call (make_map (f := f) I.kIn M.makes M.init (beq_iff_eq.mp M.fn) (hcode _ fun rs s' hq' => ?_))
  cases rs with
  | error e => exact hx pins _ _ e s' J hq'
  | ok fl =>
    cases fl with
    | ret u =>
      obtain ⟨v, H', I3, rv, ev, q3⟩ := J.after hq'
      subst ev
      exact ⟨rv, ⟨V.ref (s.heap.objs.size + 1), H', I3, rfl, q3⟩⟩
    | next => exact False.elim hq'
    | brk => exact False.elim hq'
    | cont => exact False.elim hq'
theorem pe_makeS (M : Mk X.K C f) (F : FnOk X.prog X.w X.K X.mg X.base CX k f fd ps sp) (hr : Room (k + 1) X.A) (hg : Gl X x) (hm : X.mg x = some (.ref C)) (hb : Binds X.K fd ps ds) (hd : Vals dvs ds) (hx : ∀ σ, PassesAt CX X σ (E σ)) (ha : PA X (e :: es) t)
    (hdb : (x == ("__debug__" : Str)) = false := by decide) (he : starEach (e :: es) X.env = (false, eval e X.env) :: starEach es X.env := by rfl) (hpl : (backTo pos (starEach es X.env)).any (·.1) = false := by rfl) : PE X (.Call (.Name x p) (e :: es) [] pos) (tMakeS C sp dvs E t) := by
  refine ⟨fun pins s σ H Q I h => ?_⟩
  refine wpAny_Call_Name_kw (ld_glob I hg hm ?_ hdb)
  exact PySem.W.callWith_K (h₀ := X.base) I.ok.mod.kin M.kp (thn (ha.run pos pins s σ H _ I h) fun us s1 ⟨vs, H1, J, r, q⟩ => ⟨J.kIn, run_makeS M F hr hb hd (hx σ) J r q⟩) he hpl
def tMethS (C : Addr) (m : Str) (sp : Sp) (dvs : List V) (E : L2.St → XK) (ta : TE) (t : TA) : TE := fun σ H Q => ta σ H fun x H1 => ∃ a dx fs, x = .ref a ∧ H1 a = some (.ins C dx fs) ∧ fs.lookup m = none ∧
  t σ H1 fun vs H2 => sp (x :: (vs ++ dvs)) H2 Q (E σ)
theorem pe_methS {pl : Sem Bool} (he : PE X o ta) (c : Cls X.K C) (hm : Meth X.K C m f) (F : FnOk X.prog X.w X.K X.mg X.base CX k f fd ps sp) (hr : Room k X.A) (hb : Binds X.K fd ps ds) (hd : Vals dvs ds) (hx : ∀ σ, PassesAt CX X σ (E σ)) (ha : PA X (e :: es) t)
    (hst : starEach (e :: es) X.env = (false, eval e X.env) :: starEach es X.env := by rfl) (hpl : (backTo pos (starEach es X.env)).any (·.1) = false := by rfl)
    (ht : eval (.Call (.Attribute o m apos) (e :: es) [] pos) X.env = (do
      let ov ← eval o X.env
      standAt apos.atName
      let (fu, first) ← holding [ov] (getMethod ov m pl)
      callWith pos fu first (backTo pos (starEach (e :: es) X.env)) (backToKw pos (keywordEach [] X.env))) := by rfl) :
    PE X (.Call (.Attribute o m apos) (e :: es) [] pos) (tMethS C m sp dvs E ta t) := by
  refine ⟨fun pins s σ H Q I h => ?_⟩
  refine PySem.W.methodCall_KW (pl := pl) (thn (he.run pins s σ H _ I h) fun u s1 ⟨y, H1, J, ry, a, dx, fs, ey, ea, l, q⟩ => ?_) ht
  subst ey
  obtain rfl : u = Value.ref a := ry
  refine getmeth_ok J ea c hm l ?_
  exact PySem.W.callWith_K (first := [.ref a]) (h₀ := X.base) I.ok.mod.kin hm.kp (thn (ha.run pos pins s1 σ H1 _ J q) fun us s2 ⟨vs, H2, J2, r, q2⟩ => ⟨J2.kIn, run_fnSD (us := .ref a :: us) (vs := .ref a :: vs) F hr hb hd (hx σ) J2 (.cons rfl r) q2⟩) hst hpl
/-- o.m(e, .., k = v) -/
def tMethKw (C : Addr) (m : Str) (nn mm : Nat) (sp : Sp) (gV : List V → List V → List V) (E : XK) (ta : TE) (t tk : TA) : TE := fun σ H Q => ta σ H fun x H1 => ∃ a dx fs, x = .ref a ∧ H1 a = some (.ins C dx fs) ∧ fs.lookup m = none ∧
  t σ H1 fun vs H2 => tk σ H2 fun zs H3 => (x :: vs).length = nn ∧ zs.length = mm ∧ sp (gV (x :: vs) zs) H3 Q E
theorem pe_methKw {pl : Sem Bool} {E : XK} (he : PE X o ta) (c : Cls X.K C) (hm : Meth X.K C m f) (F : FnOk X.prog X.w X.K X.mg X.base CX k f fd ps sp) (hr : Room k X.A) (hb : KBn X.K fd ps n ks g gV) (hx : Passes CX X E) (ha : PA X (e :: es) t) (hkw : PK X kws tk)
    (hall : (backToKw pos (keywordEach kws X.env)).all (·.1.isSome) = true := by rfl) (hks : (backToKw pos (keywordEach kws X.env)).filterMap (·.1) = ks := by rfl) (hst : starEach (e :: es) X.env = (false, eval e X.env) :: starEach es X.env := by rfl)
    (hpl : ((backTo pos (starEach (e :: es) X.env)).any (·.1) || (backToKw pos (keywordEach kws X.env)).any (·.1.isNone)) = false := by rfl)
    (ht : eval (.Call (.Attribute o m apos) (e :: es) kws pos) X.env = (do
      let ov ← eval o X.env
      standAt apos.atName
      let (fu, first) ← holding [ov] (getMethod ov m pl)
      callWith pos fu first (backTo pos (starEach (e :: es) X.env)) (backToKw pos (keywordEach kws X.env))) := by rfl) :
    PE X (.Call (.Attribute o m apos) (e :: es) kws pos) (tMethKw C m n ks.length sp gV E ta t tk) := by
  refine ⟨fun pins s σ H Q I h => ?_⟩
  refine PySem.W.methodCall_KW (pl := pl) (thn (he.run pins s σ H _ I h) fun u s1 ⟨y, H1, J, ry, a, dx, fs, ey, ea, l, q⟩ => ?_) ht
  subst ey
  obtain rfl : u = Value.ref a := ry
  refine getmeth_ok J ea c hm l ?_
  refine PySem.W.callWith_KW (first := [.ref a]) (h₀ := X.base) I.ok.mod.kin hm.kp hall (thn (ha.run pos pins s1 σ H1 _ J q) fun us s2 ⟨vs, H2, J2, r, q2⟩ => ?_) hpl hst
  refine thn (hkw.run pos pins s2 σ H2 _ J2 q2) fun ws s3 ⟨zs, H3, J3, rz, l1, l2, q3⟩ => ⟨J3.kIn, ?_⟩
  rw [hks]
  exact run_fnN (us := .ref a :: us) (vs := .ref a :: vs) F hr hb hx J3 (.cons rfl r) rz l1 l2 q3
end
end KTry
-- E17
namespace K01
open PySem PySem.Spec PyProof.Rows L2 L2H Evl KEv TL KDd KSq KSame KTxt KHot KSup KNew KRvT KD KTry
/-! _law_made -/
section
variable {P : Program} {w : World} {K : PySem.W.Frag} {mg : Str → Option Value} {base : Heap} {ec fi : EK → Addr} {C re : Addr} {H : Hp}
theorem RetK.mono {k : EK} {fv : List V} {H' : Hp} {Q : VK} (h : RetK k fv H Q) (e : Ex H H') : RetK k fv H' Q := fun p q H2 hp e2 h1 h2 => h p q H2 (fresh_back e hp) (e.trans e2) h1 h2
theorem ExTSt {H H' : Hp} (e : Ex H H') : TSt H H' := fun p xs h => e _ _ h
theorem MadeAt.mono {H' : Hp} {a : Addr} {sorts : List Row} {signs : List Sgn} (h : MadeAt C H a sorts signs) (e : Ex H H') : MadeAt C H' a sorts signs := by
  obtain ⟨pc, ps, pa, pr, ts, tg, sg, said, h1, ⟨dx, fs, h2, h3⟩, h4, h5, h6, h7, h8, h9, h10, h11, h12⟩ := h
  exact ⟨pc, ps, pa, pr, ts, tg, sg, said, h1.ex e, ⟨dx, fs, e _ _ h2, h3⟩, e _ _ h4, e _ _ h5, e _ _ h6, e _ _ h7, h8, fun p hp => e _ _ (h9 p hp), h10.row (ExTSt e), h11.sgn (ExTSt e), h12⟩
theorem no_term1 {done : List Row} {n c s : Str} : sortFault done n c ≠ some (.term, s) := by
  unfold sortFault
  split
  · exact fun z => by cases z
  · split
    · exact fun z => by cases z
    · split
      · exact fun z => by cases z
      · split
        · exact fun z => by cases z
        · exact fun z => by cases z
theorem no_term2 {s : Str} : ∀ {rs done : List Row}, sortsFrom done rs ≠ some (.term, s)
  | [], _, z => by cases z
  | r :: rs, done, z => by
    cases h : sortFault done r.1 r.2 with
    | some f =>
      rw [from_stop h] at z
      rw [z] at h
      exact no_term1 h
    | none =>
      rw [from_step h] at z
      exact no_term2 z
theorem no_term3 {sorts : List Row} {done : List Str} {g : Sgn} {s : Str} : signFault sorts done g ≠ some (.term, s) := by
  unfold signFault
  split
  · exact fun z => by cases z
  · split
    · exact fun z => by cases z
    · split
      · exact fun z => by cases z
      · intro z
        cases h : (g.2.1 ++ [g.2.2]).find? fun k => !decide (k ∈ sorts.map (·.1)) with
        | none => rw [h] at z; cases z
        | some k => rw [h] at z; cases z
theorem no_term4 {sorts : List Row} {s : Str} : ∀ {gs : List Sgn} {done : List Str}, signsFrom sorts done gs ≠ some (.term, s)
  | [], _, z => by cases z
  | g :: gs, done, z => by
    cases h : signFault sorts done g with
    | some f =>
      rw [sign_stop h] at z
      rw [z] at h
      exact no_term3 h
    | none =>
      rw [sign_step h] at z
      exact no_term4 z
theorem no_term (sorts : List Row) (signs : List Sgn) (s : Str) : firstFault sorts signs ≠ some (.term, s) := by
  intro z
  unfold firstFault at z
  cases h : firstSorts sorts with
  | some f =>
    rw [h] at z
    have h' := h
    unfold firstSorts at h'
    have z : f = (.term, s) := Option.some.inj z
    split at h'
    · rw [z] at h'
      exact no_term2 h'
    · rw [z] at h'
      cases h'
  | none =>
    rw [h] at z
    have z : (if decide (12 < signs.length) = true then some (EK.count, Str.ofString "signs") else signsFrom sorts [] signs) = some (EK.term, s) := z
    split at z
    · cases z
    · exact no_term4 z
/-- what a caught error asks -/
structure Caught (K : PySem.W.Frag) (ec : EK → Addr) (re : Addr) : Prop where
  exm : ∀ k, PySem.W.exmOne K (.ref (ec k)) (.ref re) = some true
structure KinAt (P : Program) (w : World) (K : PySem.W.Frag) (mg : Str → Option Value) (base : Heap) (ec : EK → Addr) (f : Addr) (fd : FuncData) : Prop where
  F : FnT P w K mg base 1 f fd ["fault"] (spKinds ec)
  g : mg "_law_kinds" = some (.ref f)
  kp : PySem.W.keepIn K (.ref f) = true
  b : Binds K fd ["fault"] []
structure MkAt (P : Program) (w : World) (K : PySem.W.Frag) (mg : Str → Option Value) (base : Heap) (ec : EK → Addr) (C f : Addr) (fd : FuncData) : Prop where
  F : FnOk P w K mg base (L2N.CX P w) 3 f fd ["self", "sorts", "signs"] (spInit ec C)
  M : Mk K C f
  g : mg "Signature" = some (.ref C)
  b : Binds K fd ["self", "sorts", "signs"] []
theorem q_asgMkS {D : Ends} {tz : TS} {C : Addr} {sp : Sp} {dvs vs : List V} {E : L2.St → XK} {t : TA} {i : Nat} {σ : L2.St} (h : EvA t σ H vs) (k : ∀ H1 x dx, Ex H H1 → H1 x = none → H1 dx = none → dx ≠ x → sp (.ref x :: (vs ++ dvs)) (L2.upd (L2.upd H1 dx (.own x)) x (.ins C dx [])) (fun v H2 => v = .non ∧ tz D (σ.set i (some (.ref x))) H2) (E σ)) : tSeq (fun D σ H => tAsg (tMakeS C sp dvs E t) (gName i) D σ H) tz D σ H :=
  h H (Ex.refl H) _ fun H1 e1 x dx hx hdx hne => k H1 x dx e1 hx hdx hne
def SzOk (sorts : List Row) (signs : List Sgn) : Prop := sorts.length ≤ 1000 ∧ signs.length ≤ 1000 ∧ (∀ r ∈ sorts, r.1.length ≤ 1000 ∧ r.2.length ≤ 1000) ∧ (∀ g ∈ signs, g.1.length ≤ 1000 ∧ g.2.1.length ≤ 1000)
def spMade (ec : EK → Addr) (C : Addr) : Sp := fun vs H Q _ => ∃ (b c : Addr) (sorts : List Row) (signs : List Sgn), vs = [.ref b, .ref c] ∧ RowsAt RowAt H b sorts ∧ RowsAt SgnAt H c signs ∧ SzOk sorts signs ∧
  (∀ k s, firstFault sorts signs = some (k, s) → RetK k [.str s] H Q) ∧ (firstFault sorts signs = none → ∀ a H', H a = none → Ex H H' → MadeAt C H' a sorts signs → Q (.ref a) H')
theorem scMade : FnScope ["sorts", "signs", "made", "e"] ["sorts", "signs"] (defScope (topS 32)) := ⟨rfl, rfl, rfl, by decide +kernel, rfl, by decide +kernel, by decide +kernel⟩
theorem ok_made {f fm fk : Addr} {fd fdm fdk : FuncData} (D : DefAt K mg 32 "_law_made" ["sorts", "signs"] f fd) (MK : MkAt P w K mg base ec C fm fdm) (KT : KinAt P w K mg base ec fk fdk) (E0 : Errs P K mg ec fi) (Ca : Caught K ec re) (gR : mg "RuleError" = some (.ref re)) : FnOk P w K mg base CX0 5 f fd ["sorts", "signs"] (spMade ec C) := by
  refine D.F.ok scMade (fun vs H Q E h => ?_) (fun cdv A outer s H vs Q E hr h => ?_)
  · obtain ⟨b, c, sorts, signs, rfl, _⟩ := h
    rfl
  · obtain ⟨b, c, sorts, signs, rfl, hb, hc, ⟨z1, z2, z3, z4⟩, kf, kn⟩ := h
    refine ⟨_, pss_cons (ps_try_asT (i := 3) rfl rfl scMade.nd rfl rfl ⟨rfl, by decide, .inl gR⟩ takes0N
      (fun W pn xe tk _ => pss_one (ps_set (i := 2) scMade.nd rfl (.inl rfl) (pe_makeS MK.M MK.F hr (by rfl) MK.g MK.b .nil (fun σ => L2N.passAt tk σ) (pa_cons (pv 0) (pa_cons (pv 1) pa_nil)))))
      (fun a pn => pss_one (ps_ret (pe_callTs KT.F (RoomH.mono (j := 1) (k := 4) ⟨hr.dp, hr.un⟩ (by decide)) rfl (by rfl) KT.g KT.kp KT.b (pa_cons (pv 3) pa_nil))))) (pss_one (ps_ret (pv 2))), ?_⟩
    refine q_asgMkS (ea_cons (ev_var rfl) (ea_cons (ev_var rfl) ea_nil)) fun H1 x dx e1 hx hdx hne => ?_
    have hx0 := fresh_back e1 hx
    have hx2 : (L2.upd H1 dx (.own x)) x = none := by rw [upd_ne (Ne.symm hne)]; exact hx
    have e2 : Ex H (L2.upd (L2.upd H1 dx (.own x)) x (.ins C dx [])) := (e1.trans (Ex.new hdx)).trans (Ex.new hx2)
    have up : ∀ {H' : Hp}, ExB [x] (L2.upd (L2.upd H1 dx (.own x)) x (.ins C dx [])) H' → Ex H H' := fun {H'} xb b o hb => xb b o (fun z => by rw [List.mem_singleton.mp z, hx0] at hb; cases hb) (e2 _ _ hb)
    refine ⟨x, b, c, dx, sorts, signs, rfl, upd_same, rowsAt_mono hb e2, sgnsAt_mono hc e2, z1, z2, z3, z4, fun k s hf => ?_, fun hf H' xb hM => ?_⟩
    · intro d H' hd xb hxd
      refine ⟨true, Ca.exm k, fun _ a oe ha hxc => ?_, fun z => by cases z⟩
      have nda : d ≠ a := fun z => by rw [z, ha] at hxd; cases hxd
      have e3 : Ex H (L2.upd H' a (xcO oe)) := (up xb).trans (Ex.new ha)
      refine ⟨_, rfl, ⟨_, _, hxc⟩, a, k, [.str s], rfl, ⟨d, hxc, ?_⟩, ?_, (kf k s hf).mono e3⟩
      · rw [upd_ne nda]
        exact hxd
      · cases k <;> first | rfl | skip
        exact absurd hf (no_term sorts signs s)
    · exact ⟨rfl, s_ret (ev_var rfl) fun H2 e3 => kn hf x H2 hx0 ((up xb).trans e3) (hM.mono e3)⟩
end
end K01
-- E18
namespace K01
open PySem PySem.Spec PyProof.Rows L2 L2H Evl KEv TL KDd KSq KSame KTxt KHot KSup KNew KRvT KD KTry
/-! what a signature without a fault keeps -/
structure GoodS (sorts : List Row) (signs : List Sgn) : Prop where
  s1 : 1 ≤ sorts.length
  s8 : sorts.length ≤ 8
  g12 : signs.length ≤ 12
  n1 : (sorts.map (·.1)).Nodup
  n2 : (sorts.map (·.2)).Nodup
  n3 : (signs.map (·.1)).Nodup
  row : ∀ r ∈ sorts, nameB (tl r.1) = true ∧ capB (tl r.2) = true
  sgn : ∀ g ∈ signs, nameB (tl g.1) = true ∧ g.2.1.length ≤ 4 ∧ ∀ k ∈ g.2.1 ++ [g.2.2], k ∈ sorts.map (·.1)
theorem sortFault_none {done : List Row} {n c : Str} (h : sortFault done n c = none) : nameB (tl n) = true ∧ n ∉ done.map (·.1) ∧ capB (tl c) = true ∧ c ∉ done.map (·.2) := by
  unfold sortFault at h
  split at h
  · cases h
  · rename_i h1
    split at h
    · cases h
    · rename_i h2
      split at h
      · cases h
      · rename_i h3
        split at h
        · cases h
        · rename_i h4
          exact ⟨by simpa using h1, by simpa using h2, by simpa using h3, by simpa using h4⟩
theorem sortsFrom_none : ∀ {rs done : List Row}, sortsFrom done rs = none → (done.map (·.1)).Nodup → (done.map (·.2)).Nodup → (∀ r ∈ done, nameB (tl r.1) = true ∧ capB (tl r.2) = true) → ((done ++ rs).map (·.1)).Nodup ∧ ((done ++ rs).map (·.2)).Nodup ∧ ∀ r ∈ done ++ rs, nameB (tl r.1) = true ∧ capB (tl r.2) = true
  | [], done, _, h1, h2, h3 => by
    rw [List.append_nil]
    exact ⟨h1, h2, h3⟩
  | r :: rs, done, h, h1, h2, h3 => by
    cases hf : sortFault done r.1 r.2 with
    | some f => rw [from_stop hf] at h; cases h
    | none =>
      rw [from_step hf] at h
      obtain ⟨a1, a2, a3, a4⟩ := sortFault_none hf
      have := sortsFrom_none h (by
        rw [List.map_append, List.nodup_append]
        refine ⟨h1, by simp, fun x hx y hy e => ?_⟩
        have e : x = r.1 := by rw [e]; exact List.mem_singleton.mp hy
        exact a2 (by rw [← e]; exact hx)) (by
        rw [List.map_append, List.nodup_append]
        refine ⟨h2, by simp, fun x hx y hy e => ?_⟩
        have e : x = r.2 := by rw [e]; exact List.mem_singleton.mp hy
        exact a4 (by rw [← e]; exact hx)) (fun s hs => by
        rcases List.mem_append.mp hs with z | z
        · exact h3 s z
        · rw [List.mem_singleton.mp z]
          exact ⟨a1, a3⟩)
      rwa [List.append_assoc] at this
theorem signFault_none {sorts : List Row} {done : List Str} {g : Sgn} (h : signFault sorts done g = none) : nameB (tl g.1) = true ∧ g.1 ∉ done ∧ g.2.1.length ≤ 4 ∧ ∀ k ∈ g.2.1 ++ [g.2.2], k ∈ sorts.map (·.1) := by
  unfold signFault at h
  split at h
  · cases h
  · rename_i h1
    split at h
    · cases h
    · rename_i h2
      split at h
      · cases h
      · rename_i h3
        cases hf : (g.2.1 ++ [g.2.2]).find? fun k => !decide (k ∈ sorts.map (·.1)) with
        | some k => rw [hf] at h; cases h
        | none =>
          refine ⟨by simpa using h1, by simpa using h2, by simpa using h3, fun k hk => ?_⟩
          have := List.find?_eq_none.mp hf k hk
          simpa using this
theorem signsFrom_none {sorts : List Row} : ∀ {gs : List Sgn} {done : List Str}, signsFrom sorts done gs = none → done.Nodup → (done ++ gs.map (·.1)).Nodup ∧ ∀ g ∈ gs, nameB (tl g.1) = true ∧ g.2.1.length ≤ 4 ∧ ∀ k ∈ g.2.1 ++ [g.2.2], k ∈ sorts.map (·.1)
  | [], done, _, h1 => by
    rw [List.map_nil, List.append_nil]
    exact ⟨h1, fun g hg => by cases hg⟩
  | g :: gs, done, h, h1 => by
    cases hf : signFault sorts done g with
    | some f => rw [sign_stop hf] at h; cases h
    | none =>
      rw [sign_step hf] at h
      obtain ⟨a1, a2, a3, a4⟩ := signFault_none hf
      have := signsFrom_none h (by
        rw [List.nodup_append]
        refine ⟨h1, by simp, fun x hx y hy e => ?_⟩
        rw [List.mem_singleton.mp hy] at e
        exact a2 (e ▸ hx))
      rw [List.append_assoc] at this
      exact ⟨this.1, fun s hs => by
        rcases List.mem_cons.mp hs with z | z
        · rw [z]
          exact ⟨a1, a3, a4⟩
        · exact this.2 s z⟩
theorem good_of {sorts : List Row} {signs : List Sgn} (h : firstFault sorts signs = none) : GoodS sorts signs := by
  unfold firstFault at h
  cases h1 : firstSorts sorts with
  | some f => rw [h1] at h; cases h
  | none =>
    rw [h1] at h
    have h : (if decide (12 < signs.length) = true then some (EK.count, Str.ofString "signs") else signsFrom sorts [] signs) = none := h
    split at h
    · cases h
    · rename_i h12
      unfold firstSorts at h1
      split at h1
      · rename_i h8
        have h8 := of_decide_eq_true h8
        obtain ⟨a1, a2, a3⟩ := sortsFrom_none h1 (by simp) (by simp) (fun r hr => by cases hr)
        obtain ⟨b1, b2⟩ := signsFrom_none h (by simp)
        exact ⟨h8.1, h8.2, by simpa using h12, a1, a2, b1, a3, b2⟩
      · cases h1
theorem name_len {x : Str} (h : nameB (tl x) = true) : 1 ≤ x.length ∧ x.length ≤ 24 := by
  unfold nameB at h
  simp only [Bool.and_eq_true, decide_eq_true_eq] at h
  rw [len_tl]
  exact ⟨h.1.1.1, h.1.1.2⟩
end K01
-- E19
namespace K01
open PySem PySem.Spec PyProof.Rows L2 L2H Evl KEv TL KDd KSq KSame KTxt KHot KSup KNew KRvT KD KTry
/-! _law_unknown, _law_checked -/
def MAt (P : Program) (w : World) (K : PySem.W.Frag) (mg : Str → Option Value) (base : Heap) (C : Addr) (CX : CXT) (n : Nat) (m : Str) (ps : List Str) (sp : Sp) (dvs : List V) : Prop := ∃ f fd ds, Meth K C m f ∧ FnOk P w K mg base CX n f fd ps sp ∧ Binds K fd ps ds ∧ Vals dvs ds
structure SmT (P : Program) (w : World) (K : PySem.W.Frag) (mg : Str → Option Value) (base : Heap) (n : Nat) (f : Addr) (fd : FuncData) : Prop where
  F : FnT P w K mg base (n + 1) f fd ["told", "due"] (spSame n)
  g : mg "_law_same" = some (.ref f)
  kp : PySem.W.keepIn K (.ref f) = true
  b : Binds K fd ["told", "due"] []
section
variable {P : Program} {w : World} {K : PySem.W.Frag} {mg : Str → Option Value} {base : Heap} {ec fi : EK → Addr} {C re : Addr} {H : Hp} {σ : L2.St}
theorem ena_one {te : TE} {R : V → Hp → Prop} (h : EvN te σ H R) : EvNA (tCons te tNil) σ H fun us G => ∃ v, us = [v] ∧ R v G := fun H1 e Q q => h H1 e _ fun v G H2 n r => q [v] G H2 n ⟨v, rfl, r⟩
theorem xc_mono {H' : Hp} {a : Addr} {cls : Value} {d : Option Addr} (h : XcAt H a cls d) (e : Ex H H') : XcAt H' a cls d := by
  obtain ⟨oe, vs, h1, h2⟩ := h
  exact ⟨oe, vs, e _ _ h1, h2⟩
theorem made_sig {a : Addr} {sorts : List Row} {signs : List Sgn} (h : MadeAt C H a sorts signs) : ∃ pc ps pa pr sg, SigAt C H a sorts signs pc ps pa pr sg := by
  obtain ⟨pc, ps, pa, pr, ts, tg, sg, said, ⟨dx, fs, h1, h1'⟩, h2, h4, h5, h6, h7, h8, h9, h10, h11, h12⟩ := h
  refine ⟨pc, ps, pa, pr, sg, ⟨⟨dx, fs, h1, fun m hm => h1' m ?_⟩, h2, h4, h5, h6, h7, h8, h9⟩⟩
  simp only [List.mem_cons, List.not_mem_nil, or_false] at hm ⊢
  rcases hm with rfl | rfl | rfl | rfl
  · exact .inl rfl
  · exact .inr (.inl rfl)
  · exact .inr (.inr (.inl rfl))
  · exact .inr (.inr (.inr (.inl rfl)))
theorem AtI.sub {a : Addr} {m m' : List (Str × V)} (h : AtI C H a m) (hs : ∀ p ∈ m', p ∈ m) : AtI C H a m' := by
  obtain ⟨dx, fs, h1, h2⟩ := h
  exact ⟨dx, fs, h1, fun p hp => h2 p (hs p hp)⟩
/-- the two lists of one tuple of texts hold the same -/
theorem same_one {p q l t : Addr} {x y : Str} (h1 : H p = some (.lst [.ref q])) (h2 : H q = some (.tup [.str x, .str y])) (h3 : H l = some (.lst [.ref t])) (h4 : H t = some (.tup [.str x, .str y])) : SameN 2 H (.ref p) (.ref l) := by
  refine .inr ⟨p, l, [.ref q], [.ref t], rfl, rfl, rfl, by simp, .inl ⟨h1, h3⟩, fun i u v hu hv => ?_⟩
  match i with
  | 0 =>
    obtain rfl : V.ref q = u := by simpa using hu
    obtain rfl : V.ref t = v := by simpa using hv
    refine .inr ⟨q, t, [.str x, .str y], [.str x, .str y], rfl, rfl, rfl, by simp, .inr ⟨h2, h4⟩, fun j u v hu hv => ?_⟩
    rw [hu] at hv
    obtain rfl := Option.some.inj hv
    match j with
    | 0 =>
      obtain rfl : V.str x = u := by simpa using hu
      exact ⟨rfl, rfl⟩
    | 1 =>
      obtain rfl : V.str y = u := by simpa using hu
      exact ⟨rfl, rfl⟩
    | j + 2 => simp at hu
  | i + 1 => simp at hu
theorem s_dropMethS {D : Ends} {m : Str} {sp : Sp} {dvs vs : List V} {E : L2.St → XK} {ta : TE} {t : TA} {a : Addr} {sorts : List Row} {signs : List Sgn} (hm : m ∈ (["_add_sort", "_add_sign", "capital", "arguments", "result", "is_bare", "sort_of_word", "fault", "check"] : List Str)) (hM : MadeAt C H a sorts signs) (ha : Ev ta σ H (.ref a)) (h : EvA t σ H vs) (k : ∀ H1, Ex H H1 → sp (.ref a :: (vs ++ dvs)) H1 (fun _ H2 => D.nx σ H2) (E σ)) : tDrop (tMethS C m sp dvs E ta t) D σ H :=
  ha H (Ex.refl H) _ fun H1 e1 => by
    obtain ⟨pc, ps, pa, pr, sg, hS⟩ := made_sig hM
    obtain ⟨dx, fs, h1, h2⟩ := hS.no
    exact ⟨a, dx, fs, rfl, e1 _ _ h1, h2 m hm, h H1 e1 _ fun H2 e2 => k H2 (e1.trans e2)⟩
def spUnknown (C : Addr) : Sp := fun vs H Q _ => ∃ (a : Addr) (x : Str) (way : Int) (sorts : List Row) (signs : List Sgn), vs = [.ref a, .str x, .int way] ∧ MadeAt C H a sorts signs ∧ GoodS sorts signs ∧ (way = 0 ∨ way = 1 → x ∉ sorts.map (·.1)) ∧ (way ≠ 0 → way ≠ 1 → x ∉ signs.map (·.1)) ∧ RetV (.bl true) H Q
theorem scUnk : FnScope ["made", "name", "way", "e"] ["made", "name", "way"] (defScope (topS 33)) := ⟨rfl, rfl, rfl, by decide +kernel, rfl, by decide +kernel, by decide +kernel⟩
theorem ok_unk {f fs fk : Addr} {fd fds fdk : FuncData} (D : DefAt K mg 33 "_law_unknown" ["made", "name", "way"] f fd) (S : SigC K C) (KT : KinAt P w K mg base ec fk fdk) (SM : SmT P w K mg base 2 fs fds) (Ca : Caught K ec re) (gR : mg "RuleError" = some (.ref re))
    (M1 : MAt P w K mg base C (L2N.CX P w) 1 "capital" ["self", "sort"] (spLook ec C "_capitals") []) (M2 : MAt P w K mg base C (L2N.CX P w) 1 "is_bare" ["self", "sort"] (spBare ec C) []) (M3 : MAt P w K mg base C (L2N.CX P w) 1 "arguments" ["self", "sign"] (spLook ec C "_arguments") []) (M4 : MAt P w K mg base C (L2N.CX P w) 1 "result" ["self", "sign"] (spLook ec C "_results") []) :
    FnOk P w K mg base CX0 4 f fd ["made", "name", "way"] (spUnknown C) := by
  obtain ⟨f1, fd1, ds1, m1, F1, b1, v1⟩ := M1
  obtain ⟨f2, fd2, ds2, m2, F2, b2, v2⟩ := M2
  obtain ⟨f3, fd3, ds3, m3, F3, b3, v3⟩ := M3
  obtain ⟨f4, fd4, ds4, m4, F4, b4, v4⟩ := M4
  refine D.F.ok scUnk (fun vs H Q E h => ?_) (fun cdv A outer s H vs Q E hr h => ?_)
  · obtain ⟨a, x, way, sorts, signs, rfl, _⟩ := h
    rfl
  · obtain ⟨a, x, way, sorts, signs, rfl, hM, hG, hs1, hs2, k⟩ := h
    have hr1 : Room 1 (A.deeper (envOfC "_law_unknown" (defScope (topS 33)) s.heap.objs.size f cdv)) := hr.mono (by decide)
    refine ⟨_, pss_cons (ps_try_asT (i := 3) rfl rfl scUnk.nd rfl rfl ⟨rfl, by decide, .inl gR⟩ takes0N
      (fun W pn xe tk _ => pss_one (ps_if (pt_cmpR op_eq (pv 2) pe_int (nomark _)) (pss_one (ps_expr (pe_methS (pv 0) S.cl m1 F1 hr1 b1 v1 (fun σ => L2N.passAt tk σ) (pa_cons (pv 1) pa_nil))))
        (pss_one (ps_if (pt_cmpR op_eq (pv 2) pe_int (nomark _)) (pss_one (ps_expr (pe_methS (pv 0) S.cl m2 F2 hr1 b2 v2 (fun σ => L2N.passAt tk σ) (pa_cons (pv 1) pa_nil))))
        (pss_one (ps_if (pt_cmpR op_eq (pv 2) pe_int (nomark _)) (pss_one (ps_expr (pe_methS (pv 0) S.cl m3 F3 hr1 b3 v3 (fun σ => L2N.passAt tk σ) (pa_cons (pv 1) pa_nil))))
        (pss_one (ps_expr (pe_methS (pv 0) S.cl m4 F4 hr1 b4 v4 (fun σ => L2N.passAt tk σ) (pa_cons (pv 1) pa_nil))))))))))
      (fun a pn => pss_one (ps_ret (pe_callTs SM.F (RoomH.mono (j := 3) (k := 3) ⟨hr.dp, hr.un⟩ (by decide)) rfl (by rfl) SM.g SM.kp SM.b (pa_cons (pe_callTs KT.F (RoomH.mono (j := 1) (k := 3) ⟨hr.dp, hr.un⟩ (by decide)) rfl (by rfl) KT.g KT.kp KT.b (pa_cons (pv 3) pa_nil)) (pa_cons (pe_lst (pa_cons (pe_tup (pa_cons pe_str (pa_cons (pv 1) pa_nil))) pa_nil)) pa_nil)))))) (pss_one (ps_ret pe_bl)), ?_⟩
    obtain ⟨pc, ps, pa, pr, sg, hS⟩ := made_sig hM
    show tIfS _ _ _ _ _ _
    generalize hW : wAsT _ _ _ _ _ _ = W
    have wish : RaisesE ec .unk x H (WE W [some (.ref a), some (.str x), some (.int way), none]) := fun d H' hd e hxd => by
      subst hW
      refine ⟨true, Ca.exm .unk, fun _ ax oe hax hxc => ?_, fun z => by cases z⟩
      have nda : d ≠ ax := fun z => by rw [z, hax] at hxd; cases hxd
      have e2 : Ex H (L2.upd H' ax (xcO oe)) := e.trans (Ex.new hax)
      have hxd2 : (L2.upd H' ax (xcO oe)) d = some (.xd ((fl .unk).zip [V.str x]).reverse) := by rw [upd_ne nda]; exact hxd
      refine ⟨_, rfl, ⟨_, _, hxc⟩, ax, .unk, [.str x], rfl, ⟨d, hxc, hxd2⟩, rfl, fun p q H2 hp e3 hpl hqt => ?_⟩
      have hL : EvN (tLst (tCons (tTup (tCons (tC (V.str "UnknownName")) (tCons (tVar 1) tNil))) tNil)) [some (.ref a), some (.str x), some (.int way), some (.ref ax)] H2 (IsL fun us G => ∃ v, us = [v] ∧ IsT (fun ys _ => ys = [.str "UnknownName", .str x]) v G) :=
        en_lst (fun us G G' h e => by
          obtain ⟨v, z1, t, ys, z2, z3, z4⟩ := h
          exact ⟨v, z1, t, ys, z2, e _ _ z3, z4⟩) (ena_one (en_eu (eu_tup (ea_cons ev_c (ea_cons (ev_var rfl) ea_nil)) (by simp)))) fun us G h => by
          obtain ⟨v, rfl, _⟩ := h
          simp
      refine hL H2 (Ex.refl _) _ fun v G H3 n r => ?_
      obtain ⟨l, us, rfl, hl, v, rfl, t, ys, rfl, ht, rfl⟩ := r
      have e4 := e3.trans n.kp
      refine ⟨⟨_, _, xc_mono hxc e4⟩, _, _, rfl, same_one (n.kp _ _ hpl) (n.kp _ _ hqt) (n.st _ _ hl) (n.st _ _ ht), fun H4 e5 => k H4 ((e2.trans e4).trans e5)⟩
    have look : ∀ {fld : Str} {d : Addr} {kvs : List (Key × V)} {H1 : Hp} {E : VK}, Ex H H1 → fld ∈ (["_capitals", "_sorts", "_arguments", "_results"] : List Str) → (fld, V.ref d) ∈ ([("_capitals", .ref pc), ("_sorts", .ref ps), ("_arguments", .ref pa), ("_results", .ref pr)] : List (Str × V)) → H d = some (.dK kvs) → valV kvs (Sum.inr x) = none →
        spLook ec C fld ([.ref a, .str x] ++ []) H1 E (WE W [some (.ref a), some (.str x), some (.int way), none]) := fun {fld d kvs H1 E} e hf hm hd hv =>
      ⟨a, x, d, kvs, rfl, (hS.at_.ex e).sub fun p hp => by rw [List.mem_singleton.mp hp]; exact hm, e _ _ hd, fun _ => wish.mono e, fun v hv2 => by rw [hv] at hv2; cases hv2⟩
    have hsgn : (sg.map fun p => p.1.1) = signs.map (·.1) := by
      rw [← hS.es, List.map_map]
      rfl
    have no1 : x ∉ sorts.map (·.1) → valV (capK sorts) (Sum.inr x) = none := dkv_no
    have no3 : x ∉ signs.map (·.1) → valV (argK sg) (Sum.inr x) = none ∧ valV (resK sg) (Sum.inr x) = none := fun h => by
      rw [← hsgn] at h
      exact ⟨dkv_no h, dkv_no h⟩
    by_cases w0 : way = 0
    · exact s_if (b := true) (et_is (et_test (ev_op (ev_var rfl) ev_c (rv_eq rfl))) (by simp [w0])) (fun _ H1 e1 => s_dropMethS (by decide) (hM.mono e1) (ev_var rfl) (ea_cons (ev_var rfl) ea_nil) fun H2 e2 => look (e1.trans e2) (by decide) (by simp) hS.pc (no1 (hs1 (.inl w0)))) (fun z => by cases z)
    · refine s_if (b := false) (et_is (et_test (ev_op (ev_var rfl) ev_c (rv_eq rfl))) (by simp [w0])) (fun z => by cases z) (fun _ H1 e1 => ?_)
      by_cases w1 : way = 1
      · exact s_if (b := true) (et_is (et_test (ev_op (ev_var rfl) ev_c (rv_eq rfl))) (by simp [w1])) (fun _ H2 e2 => s_dropMethS (by decide) (hM.mono (e1.trans e2)) (ev_var rfl) (ea_cons (ev_var rfl) ea_nil) fun H3 e3 => by
          have e13 := (e1.trans e2).trans e3
          have hx := hs1 (.inr w1)
          exact ⟨a, x, pc, pr, sorts, sg, rfl, (hS.at_.ex e13).sub (by simp), e13 _ _ hS.pc, e13 _ _ hS.pr, by rw [hsgn]; exact hG.n3, by have := congrArg List.length hS.es; rw [List.length_map] at this; have := hG.g12; omega, fun _ => wish.mono e13, fun z => absurd (of_decide_eq_true z) hx⟩) (fun z => by cases z)
      · refine s_if (b := false) (et_is (et_test (ev_op (ev_var rfl) ev_c (rv_eq rfl))) (by simp [w1])) (fun z => by cases z) (fun _ H2 e2 => ?_)
        have hx := no3 (hs2 w0 w1)
        by_cases w2 : way = 2
        · exact s_if (b := true) (et_is (et_test (ev_op (ev_var rfl) ev_c (rv_eq rfl))) (by simp [w2])) (fun _ H3 e3 => s_dropMethS (by decide) (hM.mono ((e1.trans e2).trans e3)) (ev_var rfl) (ea_cons (ev_var rfl) ea_nil) fun H4 e4 => look (((e1.trans e2).trans e3).trans e4) (by decide) (by simp) hS.pa hx.1) (fun z => by cases z)
        · exact s_if (b := false) (et_is (et_test (ev_op (ev_var rfl) ev_c (rv_eq rfl))) (by simp [w2])) (fun z => by cases z) (fun _ H3 e3 => s_dropMethS (by decide) (hM.mono ((e1.trans e2).trans e3)) (ev_var rfl) (ea_cons (ev_var rfl) ea_nil) fun H4 e4 => look (((e1.trans e2).trans e3).trans e4) (by decide) (by simp) hS.pr hx.2)
end
end K01
-- E20
namespace K01
open PySem PySem.Spec PyProof.Rows L2 L2H Evl KEv TL KDd KSq KSame KTxt KHot KSup KNew KRvT KD KTry
/-! _law_checked -/
section
variable {P : Program} {w : World} {K : PySem.W.Frag} {mg : Str → Option Value} {base : Heap} {ec fi : EK → Addr} {C re : Addr} {H : Hp} {σ : L2.St}
theorem s_asgMethS {D : Ends} {m : Str} {sp : Sp} {dvs vs : List V} {E : L2.St → XK} {ta : TE} {t : TA} {a : Addr} {i : Nat} {sorts : List Row} {signs : List Sgn} (hm : m ∈ (["_add_sort", "_add_sign", "capital", "arguments", "result", "is_bare", "sort_of_word", "fault", "check"] : List Str)) (hM : MadeAt C H a sorts signs) (ha : Ev ta σ H (.ref a)) (h : EvA t σ H vs) (k : ∀ H1, Ex H H1 → sp (.ref a :: (vs ++ dvs)) H1 (fun v H2 => D.nx (σ.set i (some v)) H2) (E σ)) : tAsg (tMethS C m sp dvs E ta t) (gName i) D σ H :=
  ha H (Ex.refl H) _ fun H1 e1 => by
    obtain ⟨pc, ps, pa, pr, sg, hS⟩ := made_sig hM
    obtain ⟨dx, fs, h1, h2⟩ := hS.no
    exact ⟨a, dx, fs, rfl, e1 _ _ h1, h2 m hm, h H1 e1 _ fun H2 e2 => k H2 (e1.trans e2)⟩
def spChecked (C : Addr) : Sp := fun vs H Q _ => ∃ (a : Addr) (x : Str) (kind : Option Str) (sorts : List Row) (signs : List Sgn), vs = [.ref a, .str x, oV kind] ∧ MadeAt C H a sorts signs ∧ GoodS sorts signs ∧ x.length ≤ 100000 ∧
  (∀ i, faultOf sorts signs x kind = some i → RetK .term [.str x, .int (i : Int)] H Q) ∧ (faultOf sorts signs x kind = none → ∀ w, (Txt.split x (" " : Str))[0]? = some w → RetV (oV (wordSort sorts signs w 9)) H Q)
theorem scCkd : FnScope ["made", "text", "kind", "told", "e"] ["made", "text", "kind"] (defScope (topS 41)) := ⟨rfl, rfl, rfl, by decide +kernel, rfl, by decide +kernel, by decide +kernel⟩
theorem ok_checked {f fk : Addr} {fd fdk : FuncData} (D : DefAt K mg 41 "_law_checked" ["made", "text", "kind"] f fd) (S : SigC K C) (KT : KinAt P w K mg base ec fk fdk) (Ca : Caught K ec re) (gR : mg "RuleError" = some (.ref re))
    (M1 : MAt P w K mg base C (L2N.CX P w) 4 "check" ["self", "text", "wanted"] (spCheck ec C) [.non]) (M2 : MAt P w K mg base C (L2N.CX P w) 4 "check" ["self", "text", "wanted"] (spCheck ec C) []) : FnOk P w K mg base CX0 5 f fd ["made", "text", "kind"] (spChecked C) := by
  obtain ⟨f1, fd1, ds1, m1, F1, b1, v1⟩ := M1
  obtain ⟨f2, fd2, ds2, m2, F2, b2, v2⟩ := M2
  refine D.F.ok scCkd (fun vs H Q E h => ?_) (fun cdv A outer s H vs Q E hr h => ?_)
  · obtain ⟨a, x, kind, sorts, signs, rfl, _⟩ := h
    rfl
  · obtain ⟨a, x, kind, sorts, signs, rfl, hM, hG, hx, kf, kn⟩ := h
    refine ⟨_, pss_cons (ps_try_asT (i := 4) rfl rfl scCkd.nd rfl rfl ⟨rfl, by decide, .inl gR⟩ takes0N
      (fun W pn xe tk _ => pss_one (ps_if (pt_cmpR op_isNon (pv 2) pe_non (nomark _)) (pss_one (ps_set (i := 3) scCkd.nd rfl (.inl rfl) (pe_methS (pv 0) S.cl m1 F1 hr b1 v1 (fun σ => L2N.passAt tk σ) (pa_cons (pv 1) pa_nil))))
        (pss_one (ps_set (i := 3) scCkd.nd rfl (.inl rfl) (pe_methS (pv 0) S.cl m2 F2 hr b2 v2 (fun σ => L2N.passAt tk σ) (pa_cons (pv 1) (pa_cons (pv 2) pa_nil)))))))
      (fun a pn => pss_one (ps_ret (pe_callTs KT.F (RoomH.mono (j := 1) (k := 4) ⟨hr.dp, hr.un⟩ (by decide)) rfl (by rfl) KT.g KT.kp KT.b (pa_cons (pv 4) pa_nil))))) (pss_one (ps_ret (pv 3))), ?_⟩
    obtain ⟨pc, ps, pa, pr, sg, hS⟩ := made_sig hM
    show tIfS _ _ _ _ _ _
    generalize hW : wAsT _ _ _ _ _ _ = W
    have wish : ∀ i, faultOf sorts signs x kind = some i → RaisesV ec .term [.str x, .int (i : Int)] H (WE W [some (.ref a), some (.str x), some (oV kind), none, none]) := fun i hf d H' hd e hxd => by
      subst hW
      refine ⟨true, Ca.exm .term, fun _ ax oe hax hxc => ?_, fun z => by cases z⟩
      have nda : d ≠ ax := fun z => by rw [z, hax] at hxd; cases hxd
      have e2 : Ex H (L2.upd H' ax (xcO oe)) := e.trans (Ex.new hax)
      have hxd2 : (L2.upd H' ax (xcO oe)) d = some (.xd ((fl .term).zip [V.str x, .int (i : Int)]).reverse) := by rw [upd_ne nda]; exact hxd
      exact ⟨_, rfl, ⟨_, _, hxc⟩, ax, .term, [.str x, .int (i : Int)], rfl, ⟨d, hxc, hxd2⟩, rfl, (kf i hf).mono e2⟩
    have both : ∀ {H1 : Hp}, Ex H H1 → spCheck ec C [.ref a, .str x, oV kind] H1 (fun v H2 => tRet (tVar 3) { nx := fun _ H9 => Q .non H9, rt := Q } [some (.ref a), some (.str x), some (oV kind), some v, none] H2) (WE W [some (.ref a), some (.str x), some (oV kind), none, none]) := fun {H1} e =>
      ⟨a, x, kind, sorts, signs, pc, ps, pa, pr, sg, rfl, hS.mono e, hx, fun g hg => (hG.sgn g hg).2.1, fun i hf d H' hd e2 hxd => wish i hf d H' (fresh_back e hd) (e.trans e2) hxd, fun hf w hw H2 e2 => s_ret (ev_var rfl) fun H3 e3 => kn hf w hw H3 ((e.trans e2).trans e3)⟩
    cases kind with
    | none => exact s_if (b := true) (et_test (ev_op (ev_var rfl) ev_c rv_isN)) (fun _ H1 e1 => s_asgMethS (by decide) (hM.mono e1) (ev_var rfl) (ea_cons (ev_var rfl) ea_nil) fun H2 e2 => both (e1.trans e2)) (fun z => by cases z)
    | some g => exact s_if (b := false) (et_test (ev_op (ev_var rfl) ev_c rv_isN)) (fun z => by cases z) (fun _ H1 e1 => s_asgMethS (by decide) (hM.mono e1) (ev_var rfl) (ea_cons (ev_var rfl) (ea_cons (ev_var rfl) ea_nil)) fun H2 e2 => both (e1.trans e2))
end
end K01
-- E21
namespace K01
open PySem PySem.Spec PyProof.Rows L2 Evl KEv TL KDd KSq KSame KTxt KHot KSup KNew KRvT KD
/-! _law_sort -/
section
variable {P : Program} {w : World} {K : PySem.W.Frag} {mg : Str → Option Value} {base : Heap} {σ : L2.St} {H : Hp}
def spSort : Sp := fun vs H Q _ => ∃ (b c : Addr) (sorts : List Row) (signs : List Sgn) (x : Str) (n : Int), vs = [.ref b, .ref c, .str x, .int n] ∧ RowsAt RowAt H b sorts ∧ RowsAt SgnAt H c signs ∧ x.length ≤ 100000 ∧ (∀ r ∈ sorts, capB (tl r.2) = true) ∧ RetV (oV (wordSort sorts signs x n)) H Q
theorem str_eq_iff {x y : Str} : decide (V.str x = V.str y) = decide (x = y) := by
  apply decide_eq_decide.mpr
  exact ⟨fun h => V.str.inj h, fun h => by rw [h]⟩
theorem scSo : FnScope ["sorts", "signs", "word", "many", "sign", "row"] ["sorts", "signs", "word", "many"] (defScope (topS 35)) := ⟨rfl, rfl, rfl, by decide +kernel, rfl, by decide +kernel, by decide +kernel⟩
theorem ok_sort {f fl : Addr} {fd fdl : FuncData} (D : DefAt K mg 35 "_law_sort" ["sorts", "signs", "word", "many"] f fd) (LL : GenAt P w K mg base 1 "_law_is_letter" ["text", "many"] spIsLetter fl fdl) (N : Nm mg) (M : NmS mg) : FnOk P w K mg base CX0 2 f fd ["sorts", "signs", "word", "many"] spSort := by
  refine D.F.ok scSo (fun vs H Q E h => ?_) (fun cdv A outer s H vs Q E hr h => ?_)
  · obtain ⟨b, c, sorts, signs, x, n, rfl, _⟩ := h
    rfl
  · obtain ⟨b, c, sorts, signs, x, n, rfl, hb, hc, hx, hcap, k⟩ := h
    refine ⟨_, (pss_cons (ps_for PassesOwn.never rfl (pi_list (pv 1)) (pg_name (i := 4) scSo.nd rfl (.inl rfl)) (pss_one (ps_if (pt_cmpR op_eq (pe_ix (r := rIxL K) ix_list (pv 4) pe_int (fun _ _ => rfl)) (pv 2) (nomark _)) (pss_one (ps_ret (pe_ix (r := rIxL K) ix_list (pv 4) pe_int (fun _ _ => rfl)))) pss_nil))) (pss_cons (ps_if (pt_val (pe_call LL.F (hr.mono (by decide)) (by rfl) LL.g LL.kp LL.b .nil pass0 (pa_cons (pv 2) (pa_cons (pv 3) pa_nil)))) (pss_one (ps_for PassesOwn.never rfl (pi_list (pv 0)) (pg_name (i := 5) scSo.nd rfl (.inl rfl)) (pss_one (ps_if (pt_cmpR op_eq (pe_ix (r := rIxL K) ix_list (pv 5) pe_int (fun _ _ => rfl)) (pe_ix ix_str (pv 2) pe_int (fun _ _ => rfl)) (nomark _)) (pss_one (ps_ret (pe_ix (r := rIxL K) ix_list (pv 5) pe_int (fun _ _ => rfl)))) pss_nil)))) pss_nil) (pss_one (ps_ret pe_non)))), ?_⟩
    obtain ⟨gds, hcl, hcn, hsgn⟩ := id hc
    obtain ⟨ads, hbl, hbn, hrow⟩ := id hb
    refine q_forLn (j := 4) (xs := gds.map V.ref) (ev_var rfl) (sq_of hcl) (fun i σ' H' => (∃ u4 u5, σ' = [some (.ref b), some (.ref c), some (.str x), some (.int n), u4, u5]) ∧ Ex H H' ∧ ∀ g ∈ signs.take i, decide (g.1 = x) = false)
      (fun H1 e1 => ⟨⟨_, _, rfl⟩, e1, fun g hg => by simp at hg⟩) (fun i σ' H' _ p => sq_of (p.2.1 _ _ hcl)) (fun i v σ' H1 hv p => ?_) (fun σ' H1 p => ?_)
    · obtain ⟨⟨u4, u5, rfl⟩, e1, hall⟩ := p
      have hi : i < signs.length := by have := (List.getElem?_eq_some_iff.mp hv).1; rw [List.length_map] at this; omega
      obtain ⟨g, er⟩ : ∃ g, signs[i]? = some g := ⟨_, List.getElem?_eq_getElem hi⟩
      obtain ⟨p, rfl, q, hp, _⟩ := ads_at hsgn hv er
      have ht : EvT (tTest (tOp rEq (tOp (rIxL K) (tVar 4) (tC (.int 0))) (tVar 2))) [some (.ref b), some (.ref c), some (.str x), some (.int n), some (.ref p), u5] H1 (decide (g.1 = x)) :=
        et_is (et_test (ev_op (ev_op (ev_var rfl) ev_c (rv_ixL (sq_of (e1 _ _ hp)) (atI_nat (j := 0) rfl))) (ev_var rfl) (rv_eq rfl))) str_eq_iff
      cases bq : decide (g.1 = x) with
      | true =>
        have hw : wordSort sorts signs x n = some g.2.2 := by
          unfold wordSort
          rw [find_first hall er bq]
        rw [hw] at k
        exact s_when (b := true) (et_is ht bq) (fun _ H2 e2 => s_ret (ev_op (ev_var rfl) ev_c (rv_ixL (sq_of (e2 _ _ (e1 _ _ hp))) (atI_nat (j := 2) rfl))) fun H3 e3 => k H3 ((e1.trans e2).trans e3)) (fun z => by cases z)
      | false =>
        refine s_when (b := false) (et_is ht bq) (fun z => by cases z) (fun _ H2 e2 => ⟨⟨_, _, rfl⟩, e1.trans e2, fun y hy => ?_⟩)
        rw [take_at er] at hy
        rcases List.mem_append.mp hy with z | z
        · exact hall y z
        · rw [List.mem_singleton.mp z]
          exact bq
    · obtain ⟨⟨u4, u5, rfl⟩, e1, hall⟩ := p
      rw [List.length_map, hcn, List.take_length] at hall
      have hnf : signs.find? (fun g => decide (g.1 = x)) = none := List.find?_eq_none.mpr fun g hg => by rw [hall g hg]; decide
      have hcall : Ev (tCall spIsLetter [] E0 (tCons (tVar 2) (tCons (tVar 3) tNil))) [some (.ref b), some (.ref c), some (.str x), some (.int n), u4, u5] H1 (.bl (letterB (tl x) n)) := ev_call (ea_cons (ev_var rfl) (ea_cons (ev_var rfl) ea_nil)) fun H1 _ Q q E => ⟨x, n, rfl, hx, fun H2 e2 => q H2 e2⟩
      cases bl : letterB (tl x) n with
      | false =>
        have hw : wordSort sorts signs x n = none := by
          unfold wordSort
          rw [hnf]
          exact if_neg (by rw [bl]; decide)
        rw [hw] at k
        exact q_when (b := false) (et_is (et_B hcall) bl) (fun z => by cases z) (fun _ H2 e2 => s_ret ev_c fun H3 e3 => k H3 ((e1.trans e2).trans e3))
      | true =>
        obtain ⟨ch, r, ec0⟩ := letter_head bl
        have hw : wordSort sorts signs x n = (sorts.find? fun r => decide (r.2 = ⟨#[ch]⟩)).map (·.1) := by
          unfold wordSort
          rw [hnf]
          show (if letterB (tl x) n = true then _ else _) = _
          rw [if_pos bl, ec0]
          rfl
        rw [hw] at k
        refine q_when (b := true) (et_is (et_B hcall) bl) (fun _ H2 e2 => ?_) (fun z => by cases z)
        have e2 := e1.trans e2
        refine s_forLn (j := 5) (xs := ads.map V.ref) (ev_var rfl) (sq_of (e2 _ _ hbl)) (fun i σ' H' => (∃ u5, σ' = [some (.ref b), some (.ref c), some (.str x), some (.int n), u4, u5]) ∧ Ex H H' ∧ ∀ r ∈ sorts.take i, decide (r.2 = ⟨#[ch]⟩) = false)
          (fun H3 e3 => ⟨⟨_, rfl⟩, e2.trans e3, fun g hg => by simp at hg⟩) (fun i σ' H' _ p => sq_of (p.2.1 _ _ hbl)) (fun i v σ' H3 hv p => ?_) (fun σ' H3 p => ?_)
        · obtain ⟨⟨u5, rfl⟩, e3, hall⟩ := p
          have hi : i < sorts.length := by have := (List.getElem?_eq_some_iff.mp hv).1; rw [List.length_map] at this; omega
          obtain ⟨r, er⟩ : ∃ g, sorts[i]? = some g := ⟨_, List.getElem?_eq_getElem hi⟩
          obtain ⟨p, rfl, hp⟩ := ads_at hrow hv er
          have ht : EvT (tTest (tOp rEq (tOp (rIxL K) (tVar 5) (tC (.int 1))) (tOp rIxS (tVar 2) (tC (.int 0))))) [some (.ref b), some (.ref c), some (.str x), some (.int n), u4, some (.ref p)] H3 (decide (r.2 = ⟨#[ch]⟩)) :=
            et_is (et_test (ev_op (ev_op (ev_var rfl) ev_c (rv_ixL (sq_of (e3 _ _ hp)) (atI_nat (j := 1) rfl))) (ev_op (ev_var rfl) ev_c (rv_ixS hx (by rw [show x.cps.toList = ch :: _ from ec0]; exact atI_nat (j := 0) rfl))) (rv_eq rfl))) str_eq_iff
          cases bq : decide (r.2 = ⟨#[ch]⟩) with
          | true =>
            rw [find_first hall er bq] at k
            exact s_when (b := true) (et_is ht bq) (fun _ H4 e4 => s_ret (ev_op (ev_var rfl) ev_c (rv_ixL (sq_of (e4 _ _ (e3 _ _ hp))) (atI_nat (j := 0) rfl))) fun H5 e5 => k H5 ((e3.trans e4).trans e5)) (fun z => by cases z)
          | false =>
            refine s_when (b := false) (et_is ht bq) (fun z => by cases z) (fun _ H4 e4 => ⟨⟨_, rfl⟩, e3.trans e4, fun y hy => ?_⟩)
            rw [take_at er] at hy
            rcases List.mem_append.mp hy with z | z
            · exact hall y z
            · rw [List.mem_singleton.mp z]
              exact bq
        · obtain ⟨⟨u5, rfl⟩, e3, hall⟩ := p
          rw [List.length_map, hbn, List.take_length] at hall
          rw [List.find?_eq_none.mpr fun r hr => by rw [hall r hr]; decide] at k
          show tRet (tC V.non) { nx := fun _ H9 => Q .non H9, rt := Q } [some (.ref b), some (.ref c), some (.str x), some (.int n), u4, u5] H3
          exact s_ret ev_c fun H4 e4 => k H4 (e3.trans e4)
end
end K01
-- E22
namespace K01
open PySem PySem.Spec PyProof.Rows L2 Evl KEv TL KDd KSq KSame KTxt KHot KSup KNew KRvT KD
/-! _law_place -/
section
variable {P : Program} {w : World} {K : PySem.W.Frag} {mg : Str → Option Value} {base : Heap} {σ : L2.St} {H : Hp}
def spPlace : Sp := fun vs H Q _ => ∃ (b c : Addr) (sorts : List Row) (signs : List Sgn) (x : Str) (wanted : Option Str), vs = [.ref b, .ref c, .str x, oV wanted] ∧ RowsAt RowAt H b sorts ∧ RowsAt SgnAt H c signs ∧ x.length ≤ 90000 ∧ GoodS sorts signs ∧ RetV (oN (faultOf sorts signs x wanted)) H Q
theorem s_dputL {D : Ends} {ta td ty : TE} {a : Addr} {kvs : List (Key × V)} {k : Key} {xs : List V} (hv : EvL ta σ H xs) (hd : Ev td σ H (.ref a)) (hk : Ev ty σ H (kV k)) (h : H a = some (.dK kvs)) (hl : kvs.length ≤ 100000)
    (kk : ∀ t H1, H t = none → Ex H H1 → H1 t = some (.lst xs) → D.nx σ (L2.upd H1 a (.dK (putK kvs k (.ref t))))) : sDPut td ty ta D σ H :=
  hv H (Ex.refl H) _ fun t H1 ht e1 h1 => hd H1 e1 _ fun H2 e2 => hk H2 (e1.trans e2) _ fun H3 e3 => ⟨a, _, rfl, DPut.k (e3 _ _ (e2 _ _ (e1 _ _ h))) (Nat.lt_of_le_of_lt hl (by decide)), kk t H3 ht ((e1.trans e2).trans e3) (e3 _ _ (e2 _ _ h1))⟩
/-- due + turned.get(word, []) -/
theorem el_catGet {ta td ty : TE} {l d : Addr} {xs : List V} {tg : List (Sgn × Addr)} {x : Str} (ha : Ev ta σ H (.ref l)) (h1 : H l = some (.lst xs)) (hd : Ev td σ H (.ref d)) (hk : Ev ty σ H (.str x)) (h : H d = some (.dK (argK tg))) (ht : ∀ p ∈ tg, H p.2 = some (.lst (p.1.2.1.reverse.map V.str)))
    (hl : xs.length + (argsOf (tg.map (·.1)) x).length ≤ 100000) : EvL (tOp rCat ta (tDGet2 td ty (tLst tNil))) σ H (xs ++ (argsOf (tg.map (·.1)) x).reverse.map V.str) := by
  have hv : valV (argK tg) (Sum.inr x) = (tg.find? fun p => decide (p.1.1 = x)).map fun p => V.ref p.2 := dkv_val
  have ea : argsOf (tg.map (·.1)) x = match tg.find? fun p => decide (p.1.1 = x) with
      | some p => p.1.2.1
      | none => [] := by
    unfold argsOf
    rw [find_sg]
    cases tg.find? fun p => decide (p.1.1 = x) <;> rfl
  intro H1 e Q q
  refine ha H1 e _ fun H2 e2 => hd H2 (e.trans e2) _ fun H3 e3 => ⟨d, rfl, .inl ⟨argK tg, .inl (e3 _ _ (e2 _ _ (e _ _ h)))⟩, hk H3 ((e.trans e2).trans e3) _ fun H4 e4 => ⟨by show 0 ≤ sizeLine; decide, fun p hp => ?_⟩⟩
  have e5 : Ex H4 (L2.upd H4 p (.lst [])) := Ex.new hp
  have e15 := ((e2.trans e3).trans e4).trans e5
  refine ⟨_, DGet.k (k := Sum.inr x) (e15 _ _ (e _ _ h)), ?_⟩
  rw [hv]
  cases b : tg.find? fun p => decide (p.1.1 = x) with
  | some r =>
    rw [b] at ea
    rw [ea] at hl q
    refine ⟨l, r.2, xs, r.1.2.1.reverse.map V.str, rfl, rfl, e15 _ _ (e _ _ h1), e15 _ _ (e _ _ (ht r (List.mem_of_find?_eq_some b))), sz_of (by simpa using hl), fun t hn => q t _ (fresh_back e15 hn) (e15.trans (Ex.new hn)) upd_same⟩
  | none =>
    rw [b] at ea
    rw [ea] at hl q
    exact ⟨l, p, xs, [], rfl, rfl, e15 _ _ (e _ _ h1), upd_same, sz_of (by simpa using hl), fun t hn => q t _ (fresh_back e15 hn) (e15.trans (Ex.new hn)) upd_same⟩
theorem nodup_take {α β : Type} {f : α → β} {l : List α} {i : Nat} {r : α} (hn : (l.map f).Nodup) (er : l[i]? = some r) : f r ∉ (l.take i).map f := by
  have e : l = l.take i ++ r :: l.drop (i + 1) := by
    rw [← drop_at er, List.take_append_drop]
  rw [e, List.map_append, List.map_cons, List.nodup_append] at hn
  intro z
  exact hn.2.2 _ z _ List.mem_cons_self rfl
theorem ev_sort {ta tb tc td : TE} {b c : Addr} {sorts : List Row} {signs : List Sgn} {x : Str} {n : Int} {E : XK} (hb : RowsAt RowAt H b sorts) (hc : RowsAt SgnAt H c signs) (hG : ∀ r ∈ sorts, capB (tl r.2) = true) (h1 : Ev ta σ H (.ref b)) (h2 : Ev tb σ H (.ref c)) (h3 : Ev tc σ H (.str x)) (h4 : Ev td σ H (.int n)) (hx : x.length ≤ 100000) :
    Ev (tCall spSort [] E (tCons ta (tCons tb (tCons tc (tCons td tNil))))) σ H (oV (wordSort sorts signs x n)) :=
  ev_call (ea_cons h1 (ea_cons h2 (ea_cons h3 (ea_cons h4 ea_nil)))) fun H1 e Q q E => ⟨b, c, sorts, signs, x, n, rfl, rowsAt_mono hb e, sgnsAt_mono hc e, hx, hG, fun H2 e2 => q H2 e2⟩
theorem scPl : FnScope ["sorts", "signs", "text", "wanted", "turned", "sign", "k", "due", "words", "at", "here", "found"] ["sorts", "signs", "text", "wanted"] (defScope (topS 40)) := ⟨rfl, rfl, rfl, by decide +kernel, rfl, by decide +kernel, by decide +kernel⟩
theorem ok_place {f fl : Addr} {fd fdl : FuncData} (D : DefAt K mg 40 "_law_place" ["sorts", "signs", "text", "wanted"] f fd) (SO : GenAt P w K mg base 2 "_law_sort" ["sorts", "signs", "word", "many"] spSort fl fdl) (N : Nm mg) (M : NmS mg) : FnOk P w K mg base CX0 3 f fd ["sorts", "signs", "text", "wanted"] spPlace := by
  refine D.F.ok scPl (fun vs H Q E h => ?_) (fun cdv A outer s H vs Q E hr h => ?_)
  · obtain ⟨b, c, sorts, signs, x, wanted, rfl, _⟩ := h
    rfl
  · obtain ⟨b, c, sorts, signs, x, wanted, rfl, hb, hc, hx, hG, k⟩ := h
    have hu := hu_of hr
    refine ⟨_, (pss_cons (ps_asg pe_dnewK (pg_name (i := 4) scPl.nd rfl (.inl rfl))) (pss_cons (ps_for PassesOwn.never rfl (pi_list (pv 1)) (pg_name (i := 5) scPl.nd rfl (.inr rfl)) (pss_one (ps_dput hu (pv 4) (pe_ix (r := rIxL K) ix_list (pv 5) pe_int (fun _ _ => rfl)) (pe_lc (own := [("k", 6)]) (g := gName 6) rfl scPl.nd (pi_range1 (by rfl) M.range (pa_cons (pe_callB (r := rLenS K) call_len_seq (by rfl) N.len PySem.boot_len (pa_cons (pe_ix (r := rIxL K) ix_list (pv 5) pe_int (fun _ _ => rfl)) pa_nil)) pa_nil)) (blkOk_by (own := [("k", 6)]) (N := ["sorts", "signs", "text", "wanted", "turned", "sign", "k", "due", "words", "at", "here", "found"]) (sc := defScope (topS 40)) (by decide +kernel)) (fun _ _ _ _ _ => pg_name (i := 6) scPl.nd rfl (.inl rfl) (hf := .inr rfl)) (fun _ _ _ _ _ => pts_nil) (fun _ _ _ _ _ => (pe_ix (r := rIxL K) ix_list (pe_ix (r := rIxL K) ix_list (pv 5) pe_int (fun _ _ => rfl)) (pe_op op_sub (pe_op op_sub (pe_callB (r := rLenS K) call_len_seq (by rfl) N.len PySem.boot_len (pa_cons (pe_ix (r := rIxL K) ix_list (pv 5) pe_int (fun _ _ => rfl)) pa_nil)) pe_int) (pv 6)) (fun _ _ => rfl)))) rfl))) (pss_cons (ps_asg (pe_lst (pa_cons (pv 3) pa_nil)) (pg_name (i := 7) scPl.nd rfl (.inl rfl))) (pss_cons (ps_asg (pe_splitS (pv 2) pe_str) (pg_name (i := 8) scPl.nd rfl (.inl rfl))) (pss_cons (ps_for PassesOwn.never rfl (pi_range1 (by rfl) M.range (pa_cons (pe_callB (r := rLenS K) call_len_seq (by rfl) N.len PySem.boot_len (pa_cons (pv 8) pa_nil)) pa_nil)) (pg_name (i := 9) scPl.nd rfl (.inl rfl)) (pss_cons (ps_if (PW.pt (pw_or (pt_not (pt_tru (pv 7))) (pw_or1 (pt_cmpR op_ge (pv 9) pe_int (nomark _))))) (pss_one (ps_ret (pv 9))) pss_nil) (pss_cons (ps_asg (pe_bm0 PySem.F.plainAttrs_list PySem.F.slot_list_pop PySem.F.type_list_pop mt_pop (pv 7)) (pg_name (i := 10) scPl.nd rfl (.inl rfl))) (pss_cons (ps_asg (pe_call SO.F (hr.mono (by decide)) (by rfl) SO.g SO.kp SO.b .nil pass0 (pa_cons (pv 0) (pa_cons (pv 1) (pa_cons (pe_ix (r := rIxL K) ix_list (pv 8) (pv 9) (fun _ _ => rfl)) (pa_cons pe_int pa_nil))))) (pg_name (i := 11) scPl.nd rfl (.inl rfl))) (pss_cons (ps_if (PW.pt (pw_or (pt_cmpR op_isNon (pv 11) pe_non (nomark _)) (pw_or1 (PW.pt (pw_and (pt_cmpR op_notNon (pv 10) pe_non (nomark _)) (pw_and1 (pt_cmpR op_ne (pv 10) (pv 11) (nomark _)))))))) (pss_one (ps_ret (pv 9))) pss_nil) (pss_one (ps_asg (pe_op (r := rCat) op_cat (pv 7) (pe_dget2 hu (pv 4) (pe_ix (r := rIxL K) ix_list (pv 8) (pv 9) (fun _ _ => rfl)) (pe_lst pa_nil) ⟨rfl, rfl, rfl, rfl⟩)) (pg_name (i := 7) scPl.nd rfl (.inl rfl))))))))) (pss_cons (ps_if (pt_tru (pv 7)) (pss_one (ps_ret (pe_callB (r := rLenS K) call_len_seq (by rfl) N.len PySem.boot_len (pa_cons (pv 8) pa_nil)))) pss_nil) (pss_one (ps_ret pe_non)))))))), ?_⟩
    obtain ⟨gds, hcl, hcn, hsgn⟩ := id hc
    refine q_asgD ed_new fun tq H1 ntq e1 h1 => ?_
    refine q_forLn (j := 5) (xs := gds.map V.ref) (ev_var rfl) (sq_of (e1 _ _ hcl)) (fun i σ' H' => (∃ u5 u6, σ' = [some (.ref b), some (.ref c), some (.str x), some (oV wanted), some (.ref tq), u5, u6, none, none, none, none, none]) ∧ ∃ tg : List (Sgn × Addr), Ex H H' ∧ H' tq = some (.dK (argK tg)) ∧ tg.map (·.1) = signs.take i ∧ ∀ p ∈ tg, H' p.2 = some (.lst (p.1.2.1.reverse.map V.str)))
      (fun H2 e2 => ⟨⟨_, _, rfl⟩, [], e1.trans e2, e2 _ _ h1, rfl, fun p hp => by cases hp⟩) (fun i σ' H' _ p => by
        obtain ⟨_, tg, z, _⟩ := p
        exact sq_of (z _ _ hcl)) (fun i v σ' H2 hv p => ?_) (fun σ' H2 p => ?_)
    · obtain ⟨⟨u5, u6, rfl⟩, tg, e2, ht2, htg, hl2⟩ := p
      have hi : i < signs.length := by have := (List.getElem?_eq_some_iff.mp hv).1; rw [List.length_map] at this; omega
      obtain ⟨g, er⟩ : ∃ g, signs[i]? = some g := ⟨_, List.getElem?_eq_getElem hi⟩
      obtain ⟨p, rfl, q, hp, hq⟩ := ads_at hsgn hv er
      have hga := (hG.sgn g (List.mem_of_getElem? er)).2.1
      have a1 : ∀ {G : Hp} {σ : L2.St}, Ex H2 G → σ[5]? = some (some (.ref p)) → Ev (tOp (rIxL K) (tVar 5) (tC (.int 1))) σ G (.ref q) := fun e h => ev_op (ev_var h) ev_c (rv_ixL (sq_of (e _ _ (e2 _ _ hp))) (atI_nat (j := 1) rfl))
      have tgl : tg.length = i := by
        have := congrArg List.length htg
        rw [List.length_map, List.length_take] at this
        omega
      refine s_dputL (k := Sum.inr g.1) (a := tq) (xs := g.2.1.reverse.map V.str) ?_ (ev_var rfl) (ev_op (ev_var rfl) ev_c (rv_ixL (sq_of (e2 _ _ hp)) (atI_nat (j := 0) rfl))) ht2 (by rw [dkv_len, tgl]; have := hG.g12; omega) fun t H3 nt e3 ht => ?_
      · refine el_lcRM g.2.1.reverse V.str (ea_cons (ev_is (ev_len (a1 (Ex.refl _) rfl) (sq_of (e2 _ _ hq))) (by rw [List.length_map, List.length_reverse])) ea_nil) (by rw [List.length_reverse]; omega) (fun _ => rfl) (fun j r H3 e3 hj => ?_)
        have hjl : j < g.2.1.length := by have := (List.getElem?_eq_some_iff.mp hj).1; rw [List.length_reverse] at this; exact this
        refine ev_op (a1 e3 rfl) (ev_op (ev_op (ev_len (a1 e3 rfl) (sq_of (e3 _ _ (e2 _ _ hq)))) ev_c rv_I0) (ev_var rfl) rv_I0) (rv_ixL (sq_of (e3 _ _ (e2 _ _ hq))) ?_)
        rw [List.length_map, show ((g.2.1.length : Int) - 1 - (j : Int)) = ((g.2.1.length - 1 - j : Nat) : Int) by omega]
        refine atI_nat ?_
        rw [List.getElem?_reverse hjl] at hj
        rw [List.getElem?_map, hj]
        rfl
      · have nin : decide (g.1 ∈ tg.map fun p : Sgn × Addr => p.1.1) = false := by
          rw [show (tg.map fun p : Sgn × Addr => p.1.1) = (signs.take i).map (·.1) by rw [← htg, List.map_map]; rfl]
          exact decide_eq_false (nodup_take hG.n3 er)
        have put1 := dkv_put (k := fun p : Sgn × Addr => p.1.1) (v := fun p => V.ref p.2) (l := tg) (r := (g, t)) nin
        have ntq2 : t ≠ tq := fun z => by rw [z, ht2] at nt; cases nt
        refine ⟨⟨_, _, rfl⟩, tg ++ [(g, t)], ((e2.trans e3).mut ntq), ?_, ?_, fun y hy => ?_⟩
        · rw [upd_same]
          exact congrArg (fun z => some (HO.dK z)) put1
        · rw [List.map_append, htg, take_at er]
          rfl
        · rcases List.mem_append.mp hy with z | z
          · have h0 := hl2 y z
            rw [upd_ne (fun w => by rw [w, ht2] at h0; cases h0)]
            exact e3 _ _ h0
          · rw [List.mem_singleton.mp z, upd_ne ntq2]
            exact ht
    · obtain ⟨⟨u5, u6, rfl⟩, tg, e2, ht2, htg, hl2⟩ := p
      have htg : tg.map (·.1) = signs := by
        rw [htg]
        exact List.take_of_length_le (by rw [List.length_map, hcn]; omega)
      refine q_asgL (el_lst (ea_cons (ev_var rfl) ea_nil) (by simp)) fun pd0 H3 npd0 e3 h3 => ?_
      refine q_asgL (el_split (ev_var rfl) ev_c (by decide) (by omega)) fun pw H4 npw e4 h4 => ?_
      have hdw0 : pw ≠ pd0 := fun z => by
        rw [z, h3] at npw
        cases npw
      have wl : ∀ w ∈ Txt.split x (" " : Str), w.length ≤ 100000 := fun w hw => Nat.le_trans (split_len hw) (by omega)
      have wc := split_count (x := x)
      unfold faultOf at k
      generalize Txt.split x (" " : Str) = ws at h4 wl wc k
      have lw : (ws.map V.str).length = ws.length := List.length_map _
      refine q_forR1 (j := 9) (n := (ws.length : Int)) (ea_cons (ev_is (ev_len (ev_var rfl) (sq_of h4)) (by rw [lw])) ea_nil) ⟨by omega, by omega⟩ (fun i σ' H' => ∃ (pd : Addr) (due : List (Option Str)) (u9 u10 u11 : Option V), σ' = [some (.ref b), some (.ref c), some (.str x), some (oV wanted), some (.ref tq), u5, u6, some (.ref pd), some (.ref pw), u9, u10, u11] ∧ Ex H2 H' ∧ H2 pd = none ∧ pw ≠ pd ∧ H' pw = some (.lst (ws.map V.str)) ∧ H' pd = some (.lst (due.reverse.map oV)) ∧ faultFrom sorts signs 0 [wanted] ws = faultFrom sorts signs i due (ws.drop i) ∧ due.length ≤ 1 + 4 * i ∧ i ≤ 200)
        (fun H5 e5 => ⟨pd0, [wanted], none, none, none, rfl, (e3.trans e4).trans e5, npd0, hdw0, e5 _ _ h4, e5 _ _ (e4 _ _ h3), rfl, by simp, by omega⟩) (fun i σ' H5 hi p => ?_) (fun σ' H5 p => ?_)
      · obtain ⟨pd, due, u9, u10, u11, rfl, e5, npd, hdw, hw5, hd5, hff, hl, hi2⟩ := p
        obtain ⟨w, ew⟩ : ∃ w, ws[i]? = some w := ⟨_, List.getElem?_eq_getElem (by omega)⟩
        rw [drop_at ew] at hff
        have hwl := wl w (List.mem_of_getElem? ew)
        have e25 := e2.trans e5
        cases due with
        | nil =>
          have ff : faultFrom sorts signs 0 [wanted] ws = some i := hff
          rw [ff] at k
          exact q_when (b := true) (et_or (a := true) (b := true) (et_is (et_not (et_truL (xs := []) (ev_var rfl) (sq_of hd5))) rfl) fun z => by cases z) (fun _ H6 e6 => s_ret (ev_var rfl) fun H7 e7 => k H7 ((e25.trans e6).trans e7)) (fun z => by cases z)
        | cons here due =>
          have hrev : (here :: due).reverse.map oV = due.reverse.map oV ++ [oV here] := by simp
          rw [hrev] at hd5
          have hne : (due.reverse.map oV ++ [oV here]).isEmpty = false := by simp
          by_cases h200 : 200 ≤ i
          · have ff : faultFrom sorts signs 0 [wanted] ws = some i := by
              rw [hff, faultFrom, if_pos h200]
            rw [ff] at k
            exact q_when (b := true) (et_or (a := false) (b := true) (et_is (et_not (et_truL (ev_var rfl) (sq_of hd5))) (by rw [hne]; rfl)) fun _ => et_is (et_test (ev_op (ev_var rfl) ev_c rv_I0)) (decide_eq_true (by omega))) (fun _ H6 e6 => s_ret (ev_var rfl) fun H7 e7 => k H7 ((e25.trans e6).trans e7)) (fun z => by cases z)
          · refine q_when (b := false) (et_or (a := false) (b := false) (et_is (et_not (et_truL (ev_var rfl) (sq_of hd5))) (by rw [hne]; rfl)) fun _ => et_is (et_test (ev_op (ev_var rfl) ev_c rv_I0)) (decide_eq_false (by omega))) (fun z => by cases z) (fun _ H6 e6 => ?_)
            refine q_pop (v := oV here) (ev_var rfl) (e6 _ _ hd5) (by simp) fun H7 e7 => ?_
            rw [List.dropLast_concat]
            have hw7' := e7 _ _ (e6 _ _ hw5)
            have e57 := (e5.trans (e6.trans e7)).mut (o := .lst (due.reverse.map oV)) npd
            have hw7 : (L2.upd H7 pd (.lst (due.reverse.map oV))) pw = some (.lst (ws.map V.str)) := by
              rw [upd_ne hdw]
              exact hw7'
            have hd7 : (L2.upd H7 pd (.lst (due.reverse.map oV))) pd = some (.lst (due.reverse.map oV)) := upd_same
            generalize (L2.upd H7 pd (.lst (due.reverse.map oV))) = H8 at e57 hw7 hd7
            have e28 := e2.trans e57
            have wix : ∀ {G : Hp} {σ : L2.St}, Ex H8 G → σ[8]? = some (some (.ref pw)) → σ[9]? = some (some (.int (i : Int))) → Ev (tOp (rIxL K) (tVar 8) (tVar 9)) σ G (.str w) := fun e h8 h9 => ev_op (ev_var h8) (ev_var h9) (rv_ixL (sq_of (e _ _ hw7)) (atI_nat (by rw [List.getElem?_map, ew]; rfl)))
            refine q_asg (ev_sort (rowsAt_mono hb e28) (sgnsAt_mono hc e28) (fun r hr => (hG.row r hr).2) (ev_var rfl) (ev_var rfl) (wix (Ex.refl _) rfl rfl) ev_c hwl) fun H9 e9 => ?_
            cases hf : wordSort sorts signs w 9 with
            | none =>
              have ff : faultFrom sorts signs 0 [wanted] ws = some i := by
                rw [hff, faultFrom, if_neg h200, hf]
              rw [ff] at k
              exact q_when (b := true) (et_or (a := true) (b := true) (et_test (ev_op (ev_var rfl) ev_c rv_isN)) fun z => by cases z) (fun _ H10 e10 => s_ret (ev_var rfl) fun H11 e11 => k H11 (((e28.trans e9).trans e10).trans e11)) (fun z => by cases z)
            | some f =>
              rw [faultFrom, if_neg h200, hf] at hff
              have ht : EvT (tOr (tTest (tOp rIsN (tVar 11) (tC .non))) (tAnd (tTest (tOp rNotN (tVar 10) (tC .non))) (tTest (tOp rNe (tVar 10) (tVar 11))))) [some (.ref b), some (.ref c), some (.str x), some (oV wanted), some (.ref tq), u5, u6, some (.ref pd), some (.ref pw), some (.int i), some (oV here), some (.str f)] H9 (!decide (here = none ∨ here = some f)) := by
                refine et_is (et_or (b := !decide (here = none ∨ here = some f)) (et_test (ev_op (ev_var rfl) ev_c rv_isN)) fun _ => ?_) rfl
                cases here with
                | none => exact et_is (et_and (b := true) (et_test (ev_op (ev_var rfl) ev_c rv_notN)) fun z => by cases z) rfl
                | some g => exact et_is (et_and (b := !decide (V.str g = V.str f)) (et_test (ev_op (ev_var rfl) ev_c rv_notN)) fun _ => et_test (ev_op (ev_var rfl) (ev_var rfl) (rv_ne rfl))) (by simp [oV])
              by_cases hq : here = none ∨ here = some f
              · simp only [hq, if_true] at hff
                refine q_when (b := false) (et_is ht (by simp [hq])) (fun z => by cases z) (fun _ H10 e10 => ?_)
                have e8' := e9.trans e10
                have al := args_len (signs := signs) (x := w) (fun g hg => (hG.sgn g hg).2.1)
                simp only [List.length_cons] at hl
                have hcat := el_catGet (td := tVar 4) (ta := tVar 7) (σ := [some (.ref b), some (.ref c), some (.str x), some (oV wanted), some (.ref tq), u5, u6, some (.ref pd), some (.ref pw), some (.int i), some (oV here), some (.str f)]) (ev_var rfl) (e8' _ _ hd7) (ev_var rfl) (wix e8' rfl rfl) (e8' _ _ (e57 _ _ ht2)) (fun p hp => e8' _ _ (e57 _ _ (hl2 p hp))) (by rw [htg, List.length_map, List.length_reverse]; omega)
                refine s_asgL hcat fun pd2 H11 npd2 e11 h11 => ?_
                have e11' := e8'.trans e11
                refine ⟨pd2, (argsOf signs w).map some ++ due, _, _, _, rfl, e57.trans e11', fresh_back (e57.trans e8') npd2, fun z => ?_, e11' _ _ hw7, ?_, hff, ?_, by omega⟩
                · rw [← z, e8' _ _ hw7] at npd2
                  cases npd2
                · rw [h11, htg]
                  simp [List.map_reverse, Function.comp_def, oV]
                · rw [List.length_append, List.length_map]
                  omega
              · simp only [hq, if_false] at hff
                rw [hff] at k
                exact q_when (b := true) (et_is ht (by simp [hq])) (fun _ H10 e10 => s_ret (ev_var rfl) fun H11 e11 => k H11 (((e28.trans e9).trans e10).trans e11)) (fun z => by cases z)
      · obtain ⟨pd, due, u9, u10, u11, rfl, e5, npd, hdw, hw5, hd5, hff, hl, hi2⟩ := p
        rw [show ((ws.length : Int)).toNat = ws.length by simp] at hff hl hi2
        rw [List.drop_length] at hff
        have hff : faultFrom sorts signs 0 [wanted] ws = if due.isEmpty then none else some ws.length := hff
        rw [hff] at k
        have e25 := e2.trans e5
        cases due with
        | nil => exact q_when (b := false) (et_is (et_truL (xs := []) (ev_var rfl) (sq_of hd5)) rfl) (fun z => by cases z) (fun _ H6 e6 => s_ret ev_c fun H7 e7 => k H7 ((e25.trans e6).trans e7))
        | cons here due => exact q_when (b := true) (et_is (et_truL (ev_var rfl) (sq_of hd5)) (by simp)) (fun _ H6 e6 => s_ret (ev_is (ev_len (ev_var rfl) (sq_of (e6 _ _ hw5))) (by rw [List.length_map]; rfl)) fun H7 e7 => k H7 ((e25.trans e6).trans e7)) (fun z => by cases z)
end
end K01
-- E23
namespace K01
open PySem PySem.Spec PyProof.Rows L2 Evl KEv TL KDd KSq KSame KTxt KHot KSup KNew KRvT KD
/-! _law_names_told -/
section
variable {P : Program} {w : World} {K : PySem.W.Frag} {mg : Str → Option Value} {base : Heap} {σ : L2.St} {H : Hp} {ec : EK → Addr} {C : Addr}
theorem SameN.up : ∀ {n : Nat} {x y : V}, SameN n H x y → SameN (n + 1) H x y
  | 0, _, _, h => .inl h
  | n + 1, _, _, h => by
    rcases h with h | ⟨a, b, xs, ys, h1, h2, h3, h4, h5, h6⟩
    · exact .inl h
    · exact .inr ⟨a, b, xs, ys, h1, h2, h3, h4, h5, fun i u v p q => (h6 i u v p q).up⟩
theorem SameN.flat {n : Nat} {x : V} (h : flatS x = true) : SameN n H x x := by
  cases n with
  | zero => exact ⟨rfl, h⟩
  | succ n => exact .inl ⟨rfl, h⟩
theorem ev_same {ta tb : TE} {R1 R2 : V → Hp → Prop} {E : XK} {n : Nat} (h1 : EvN ta σ H R1) (h2 : ∀ G, Ex H G → EvN tb σ G R2) (hs : ∀ x y G G', R1 x G → Ex G G' → R2 y G' → SameN n G' x y) : Ev (tCall (spSame n) [] E (tCons ta (tCons tb tNil))) σ H (.bl true) := fun H1 e Q q =>
  h1 H1 e _ fun x G H2 n r => h2 G n.up H2 n.st _ fun y G' H3 n' r' => ⟨x, y, rfl, (hs x y G G' r n'.up r').mono n'.st, fun H4 e4 => q H4 ((n.kp.trans n'.kp).trans e4)⟩
theorem ev_sameF {ta tb : TE} {x : V} {E : XK} {n : Nat} (hx : flatS x = true) (h1 : Ev ta σ H x) (h2 : ∀ G, Ex H G → Ev tb σ G x) : Ev (tCall (spSame n) [] E (tCons ta (tCons tb tNil))) σ H (.bl true) :=
  ev_same (en_ev h1) (fun G e => en_ev (h2 G e)) fun u v G G' h e h' => by
    rw [h, h']
    exact SameN.flat hx
def spNamesTold (C : Addr) : Sp := fun vs H Q _ => ∃ (a b c : Addr) (sorts : List Row) (signs : List Sgn), vs = [.ref a, .ref b, .ref c] ∧ MadeAt C H a sorts signs ∧ RowsAt RowAt H b sorts ∧ RowsAt SgnAt H c signs ∧ GoodS sorts signs ∧ RetV (.bl true) H Q
theorem ev_methM {m : Str} {sp : Sp} {dvs vs : List V} {v : V} {ta : TE} {t : TA} {a : Addr} {E : XK} {sorts : List Row} {signs : List Sgn} (hm : m ∈ (["_add_sort", "_add_sign", "capital", "arguments", "result", "is_bare", "sort_of_word", "fault", "check"] : List Str)) (hM : MadeAt C H a sorts signs) (ha : Ev ta σ H (.ref a)) (h : EvA t σ H vs)
    (k : ∀ H1, Ex H H1 → ∀ Q : VK, RetV v H1 Q → sp (.ref a :: (vs ++ dvs)) H1 Q E) : Ev (tMeth C m sp dvs E ta t) σ H v := fun H1 e Q q =>
  ha H1 e _ fun H2 e2 => by
    obtain ⟨pc, ps, pa, pr, sg, hS⟩ := made_sig hM
    obtain ⟨dx, fs, h1, h2⟩ := hS.no
    exact ⟨a, dx, fs, rfl, e2 _ _ (e _ _ h1), h2 m hm, h H2 (e.trans e2) _ fun H3 e3 => k H3 ((e.trans e2).trans e3) Q fun H4 e4 => q H4 ((e2.trans e3).trans e4)⟩
theorem sg_nd {sg : List (Sgn × Addr)} {signs : List Sgn} {sorts : List Row} (he : sg.map (·.1) = signs) (hG : GoodS sorts signs) : (sg.map fun p => p.1.1).Nodup := by
  have : (sg.map fun p => p.1.1) = signs.map (·.1) := by
    rw [← he, List.map_map]
    rfl
  rw [this]
  exact hG.n3
section
variable {a : Addr} {sorts : List Row} {signs : List Sgn} {ta tx : TE} {E : XK} {r : Row} {g : Sgn} (hM : MadeAt C H a sorts signs) (hG : GoodS sorts signs) (ha : Ev ta σ H (.ref a))
include hM hG ha
theorem ev_cap (hr : r ∈ sorts) (hx : Ev tx σ H (.str r.1)) : Ev (tMeth C "capital" (spLook ec C "_capitals") [] E ta (tCons tx tNil)) σ H (.str r.2) :=
  ev_methM (by decide) hM ha (ea_cons hx ea_nil) fun H1 e Q q => by
    obtain ⟨pc, ps, pa, pr, sg, hS⟩ := made_sig hM
    have hv : valV (capK sorts) (Sum.inr r.1) = some (.str r.2) := dkv_at (k := fun r : Row => r.1) (v := fun r => V.str r.2) hG.n1 hr
    exact ⟨a, r.1, pc, capK sorts, rfl, (hS.at_.ex e).sub (by simp), e _ _ hS.pc, fun z => (by rw [hv] at z; cases z), fun v z => by
      rw [hv] at z
      obtain rfl := Option.some.inj z
      exact q⟩
theorem ev_res (hr : g ∈ signs) (hx : Ev tx σ H (.str g.1)) : Ev (tMeth C "result" (spLook ec C "_results") [] E ta (tCons tx tNil)) σ H (.str g.2.2) :=
  ev_methM (by decide) hM ha (ea_cons hx ea_nil) fun H1 e Q q => by
    obtain ⟨pc, ps, pa, pr, sg, hS⟩ := made_sig hM
    obtain ⟨p, hp, rfl⟩ : ∃ p ∈ sg, p.1 = g := by rw [← hS.es] at hr; exact List.mem_map.mp hr
    have hv : valV (resK sg) (Sum.inr p.1.1) = some (.str p.1.2.2) := dkv_at (k := fun p : Sgn × Addr => p.1.1) (v := fun p => V.str p.1.2.2) (sg_nd hS.es hG) hp
    exact ⟨a, p.1.1, pr, resK sg, rfl, (hS.at_.ex e).sub (by simp), e _ _ hS.pr, fun z => (by rw [hv] at z; cases z), fun v z => by
      rw [hv] at z
      obtain rfl := Option.some.inj z
      exact q⟩
theorem ev_arg (hr : g ∈ signs) (hx : Ev tx σ H (.str g.1)) : ∃ t, H t = some (.tup (g.2.1.map V.str)) ∧ Ev (tMeth C "arguments" (spLook ec C "_arguments") [] E ta (tCons tx tNil)) σ H (.ref t) := by
  obtain ⟨pc, ps, pa, pr, sg, hS⟩ := made_sig hM
  obtain ⟨p, hp, rfl⟩ : ∃ p ∈ sg, p.1 = g := by rw [← hS.es] at hr; exact List.mem_map.mp hr
  refine ⟨p.2, hS.tup p hp, ev_methM (by decide) hM ha (ea_cons hx ea_nil) fun H1 e Q q => ?_⟩
  have hv : valV (argK sg) (Sum.inr p.1.1) = some (.ref p.2) := dkv_at (k := fun p : Sgn × Addr => p.1.1) (v := fun p => V.ref p.2) (sg_nd hS.es hG) hp
  exact ⟨a, p.1.1, pa, argK sg, rfl, (hS.at_.ex e).sub (by simp), e _ _ hS.pa, fun z => (by rw [hv] at z; cases z), fun v z => by
      rw [hv] at z
      obtain rfl := Option.some.inj z
      exact q⟩
theorem ev_bare (hr : r ∈ sorts) (hx : Ev tx σ H (.str r.1)) : Ev (tMeth C "is_bare" (spBare ec C) [] E ta (tCons tx tNil)) σ H (.bl (!decide (r.1 ∈ signs.map (·.2.2)))) :=
  ev_methM (by decide) hM ha (ea_cons hx ea_nil) fun H1 e Q q => by
    obtain ⟨pc, ps, pa, pr, sg, hS⟩ := made_sig hM
    have hin : decide (r.1 ∈ sorts.map (·.1)) = true := decide_eq_true (List.mem_map.mpr ⟨r, hr, rfl⟩)
    have hany : (sg.any fun p => decide (p.1.2.2 = r.1)) = decide (r.1 ∈ signs.map (·.2.2)) := by
      rw [← hS.es, List.map_map]
      apply Bool.eq_iff_iff.mpr
      rw [List.any_eq_true, decide_eq_true_eq, List.mem_map]
      exact ⟨fun ⟨p, h1, h2⟩ => ⟨p, h1, of_decide_eq_true h2⟩, fun ⟨p, h1, h2⟩ => ⟨p, h1, decide_eq_true h2⟩⟩
    refine ⟨a, r.1, pc, pr, sorts, sg, rfl, (hS.at_.ex e).sub (by simp), e _ _ hS.pc, e _ _ hS.pr, sg_nd hS.es hG, by have := congrArg List.length hS.es; rw [List.length_map] at this; have := hG.g12; omega, fun z => (by rw [hin] at z; cases z), fun _ => ?_⟩
    rw [hany]
    exact q
theorem ev_unk {tw : TE} {x : Str} {way : Int} (hx : Ev tx σ H (.str x)) (hw : Ev tw σ H (.int way)) (h1 : way = 0 ∨ way = 1 → x ∉ sorts.map (·.1)) (h2 : way ≠ 0 → way ≠ 1 → x ∉ signs.map (·.1)) : Ev (tCall (spUnknown C) [] E (tCons ta (tCons tx (tCons tw tNil)))) σ H (.bl true) :=
  ev_call (ea_cons ha (ea_cons hx (ea_cons hw ea_nil))) fun H1 e Q q E => ⟨a, x, way, sorts, signs, rfl, hM.mono e, hG, h1, h2, fun H2 e2 => q H2 e2⟩
end
/-- two tuples of rows that hold the same -/
theorem same_tups {α : Type} {f : Hp → Addr → α → Prop} {n : Nat} {ts tt : Addr} {rs : List α} (h1 : TupsAt f H ts rs) (h2 : TupsAt f H tt rs) (hf : ∀ p q r, r ∈ rs → f H p r → f H q r → SameN n H (.ref p) (.ref q)) (hl : rs.length ≤ 10000) : SameN (n + 1) H (.ref ts) (.ref tt) := by
  obtain ⟨as, a1, a2, a3⟩ := h1
  obtain ⟨bs, b1, b2, b3⟩ := h2
  refine .inr ⟨ts, tt, _, _, rfl, rfl, by rw [List.length_map, List.length_map, a2, b2], by rw [List.length_map]; omega, .inr ⟨a1, b1⟩, fun i u v hu hv => ?_⟩
  obtain ⟨r, er⟩ : ∃ r, rs[i]? = some r := ⟨_, List.getElem?_eq_getElem (by have := (List.getElem?_eq_some_iff.mp hu).1; rw [List.length_map] at this; omega)⟩
  obtain ⟨p, rfl, hp⟩ := ads_at a3 hu er
  obtain ⟨q, rfl, hq⟩ := ads_at b3 hv er
  exact hf p q r (List.mem_of_getElem? er) hp hq
theorem same_strs {xs : List V} {p q : Addr} {n : Nat} (hf : xs.all flatS = true) (hl : xs.length ≤ 10000) (h : (H p = some (.lst xs) ∧ H q = some (.lst xs)) ∨ (H p = some (.tup xs) ∧ H q = some (.tup xs))) : SameN (n + 1) H (.ref p) (.ref q) :=
  .inr ⟨p, q, xs, xs, rfl, rfl, rfl, hl, h, fun i u v hu hv => by
    rw [hu] at hv
    obtain rfl := Option.some.inj hv
    exact SameN.flat (List.all_eq_true.mp hf u (List.mem_of_getElem? hu))⟩
theorem flat_strs (l : List Str) : (l.map V.str).all flatS = true := by
  rw [List.all_map, List.all_eq_true]
  intro x _
  rfl
theorem same_row {p q : Addr} {r : Row} {n : Nat} (h1 : RowT H p r) (h2 : RowT H q r) : SameN (n + 1) H (.ref p) (.ref q) := same_strs (xs := [.str r.1, .str r.2]) rfl (by simp) (.inr ⟨h1, h2⟩)
theorem same_sgn {p q : Addr} {g : Sgn} {n : Nat} (hl : g.2.1.length ≤ 10000) (h1 : SgnT H p g) (h2 : SgnT H q g) : SameN (n + 2) H (.ref p) (.ref q) := by
  obtain ⟨p', a1, a2⟩ := h1
  obtain ⟨q', b1, b2⟩ := h2
  refine .inr ⟨p, q, [.str g.1, .ref p', .str g.2.2], [.str g.1, .ref q', .str g.2.2], rfl, rfl, rfl, by simp, .inr ⟨a1, b1⟩, fun i u v hu hv => ?_⟩
  match i with
  | 0 =>
    obtain rfl : V.str g.1 = u := by simpa using hu
    obtain rfl : V.str g.1 = v := by simpa using hv
    exact SameN.flat rfl
  | 1 =>
    obtain rfl : V.ref p' = u := by simpa using hu
    obtain rfl : V.ref q' = v := by simpa using hv
    exact same_strs (flat_strs g.2.1) (by rw [List.length_map]; exact hl) (.inr ⟨a2, b2⟩)
  | 2 =>
    obtain rfl : V.str g.2.2 = u := by simpa using hu
    obtain rfl : V.str g.2.2 = v := by simpa using hv
    exact SameN.flat rfl
  | i + 3 => simp at hu
def RowsR {α : Type} (f : Hp → Addr → α → Prop) (n : Nat) (rs : List α) (ys : List V) (G : Hp) : Prop := ys.length = n ∧ ∀ (i : Nat) (y : V), ys[i]? = some y → ∃ p r, y = V.ref p ∧ rs[i]? = some r ∧ f G p r
theorem rowsR_mono {α : Type} {f : Hp → Addr → α → Prop} (hf : ∀ H H' p r, Ex H H' → f H p r → f H' p r) {n : Nat} {rs : List α} : MonoR (RowsR f n rs) := fun ys G G' h e => ⟨h.1, fun i y hy => by
  obtain ⟨p, r, z1, z2, z3⟩ := h.2 i y hy
  exact ⟨p, r, z1, z2, hf _ _ _ _ e z3⟩⟩
theorem tups_of {α : Type} {f : Hp → Addr → α → Prop} {rs : List α} {v : V} {n : Nat} (hn : n = rs.length) (h : IsT (RowsR f n rs) v H) : ∃ t, v = .ref t ∧ TupsAt f H t rs := by
  obtain ⟨t, ys, rfl, ht, hl, hy⟩ := h
  obtain ⟨ads, rfl, h2, h3⟩ := refsOf1 (f := f) (hl.trans hn) hy
  exact ⟨t, rfl, ads, ht, h2, h3⟩
theorem rowT_mono (H H' : Hp) (p : Addr) (r : Row) (e : Ex H H') (h : RowT H p r) : RowT H' p r := e _ _ h
theorem sgnT_mono (H H' : Hp) (p : Addr) (g : Sgn) (e : Ex H H') (h : SgnT H p g) : SgnT H' p g := by
  obtain ⟨q, h1, h2⟩ := h
  exact ⟨q, e _ _ h1, e _ _ h2⟩
def allN (sorts : List Row) (signs : List Sgn) (x : Str) : List Str := sorts.map (·.1) ++ signs.map (·.1) ++ [Str.ofString "noName", Str.ofString "", x]
/-- tuple([tuple(row) for row in sorts]) -/
theorem en_rowsT {tl : TE} {b : Addr} {sorts : List Row} {j : Nat} {vs : List Nat} (hb : RowsAt RowAt H b sorts) (h : Ev tl σ H (.ref b)) (hz : sorts.length ≤ 40000) (hw : ∀ x, wipe ((wipe σ vs).set j (some x)) vs = wipe σ vs) (hj : ∀ x, ((wipe σ vs).set j (some x))[j]? = some (some x)) :
    EvN (tCB (rTupSq K) (tCons (tLc (iList K tl) (gName j) tYes (tCB (rTupSq K) (tCons (tVar j) tNil)) vs) tNil)) σ H (IsT (RowsR RowT sorts.length sorts)) := by
  obtain ⟨ads, hbl, hbn, hrow⟩ := hb
  have key := en_tupL (K := K) (Rs := RowsR RowT (ads.map V.ref).length sorts) (rowsR_mono rowT_mono) (en_lcL (K := K) (σ := σ) (g := gName j) (te := tCB (rTupSq K) (tCons (tVar j) tNil)) (vs := vs) (xs := ads.map V.ref) (fun i y G => ∃ p r, y = V.ref p ∧ sorts[i]? = some r ∧ RowT G p r) (fun i y G G' h e => by
    obtain ⟨p, r, z1, z2, z3⟩ := h
    exact ⟨p, r, z1, z2, e _ _ z3⟩) h (sq_of hbl) (by rw [List.length_map]; omega) fun i x G H1 eG eH hx Q q => by
    obtain ⟨r, er⟩ : ∃ r, sorts[i]? = some r := ⟨_, List.getElem?_eq_getElem (by have := (List.getElem?_eq_some_iff.mp hx).1; rw [List.length_map] at this; omega)⟩
    obtain ⟨p, rfl, hp⟩ := ads_at hrow hx er
    refine ⟨hw _, (en_eu (eu_tupL (ev_var (hj _)) (sq_of (eG _ _ hp)))) H1 eH Q fun v G' H2 n r' => q v G' H2 n ?_⟩
    obtain ⟨t, ys, rfl, ht, rfl⟩ := r'
    exact ⟨t, r, rfl, er, ht⟩)
  rw [List.length_map, hbn] at key
  exact key
/-- tuple([(row[0], tuple(row[1]), row[2]) for row in signs]) -/
theorem en_sgnsT {tl : TE} {c : Addr} {signs : List Sgn} {j : Nat} {vs : List Nat} (hc : RowsAt SgnAt H c signs) (h : Ev tl σ H (.ref c)) (hz : signs.length ≤ 40000) (hw : ∀ x, wipe ((wipe σ vs).set j (some x)) vs = wipe σ vs) (hj : ∀ x, ((wipe σ vs).set j (some x))[j]? = some (some x)) :
    EvN (tCB (rTupSq K) (tCons (tLc (iList K tl) (gName j) tYes (tTup (tCons (tOp (rIxL K) (tVar j) (tC (.int 0))) (tCons (tCB (rTupSq K) (tCons (tOp (rIxL K) (tVar j) (tC (.int 1))) tNil)) (tCons (tOp (rIxL K) (tVar j) (tC (.int 2))) tNil)))) vs) tNil)) σ H (IsT (RowsR SgnT signs.length signs)) := by
  obtain ⟨gds, hcl, hcn, hsgn⟩ := hc
  have key := en_tupL (K := K) (Rs := RowsR SgnT (gds.map V.ref).length signs) (rowsR_mono sgnT_mono) (en_lcL (K := K) (σ := σ) (g := gName j) (te := tTup (tCons (tOp (rIxL K) (tVar j) (tC (.int 0))) (tCons (tCB (rTupSq K) (tCons (tOp (rIxL K) (tVar j) (tC (.int 1))) tNil)) (tCons (tOp (rIxL K) (tVar j) (tC (.int 2))) tNil)))) (vs := vs) (xs := gds.map V.ref) (fun i y G => ∃ p r, y = V.ref p ∧ signs[i]? = some r ∧ SgnT G p r) (fun i y G G' h e => by
    obtain ⟨p, r, z1, z2, z3⟩ := h
    exact ⟨p, r, z1, z2, sgnT_mono _ _ _ _ e z3⟩) h (sq_of hcl) (by rw [List.length_map]; omega) fun i x G H1 eG eH hx Q q => by
    obtain ⟨g, er⟩ : ∃ r, signs[i]? = some r := ⟨_, List.getElem?_eq_getElem (by have := (List.getElem?_eq_some_iff.mp hx).1; rw [List.length_map] at this; omega)⟩
    obtain ⟨p, rfl, q0, hp, hq⟩ := ads_at hsgn hx er
    have hp := eG _ _ hp
    have hq := eG _ _ hq
    refine ⟨hw _, (en_tup (Rs := fun us G => ∃ t, us = [.str g.1, .ref t, .str g.2.2] ∧ G t = some (.tup (g.2.1.map V.str))) (fun us G G' h e => by
        obtain ⟨t, z1, z2⟩ := h
        exact ⟨t, z1, e _ _ z2⟩) ((ena_consV (ev_op (ev_var (hj _)) ev_c (rv_ixL (sq_of hp) (atI_nat (j := 0) rfl))) (ena_cons (Rr := fun _ vs _ => vs = [.str g.2.2]) (Rw := fun us G => ∃ t, us = [.ref t, .str g.2.2] ∧ G t = some (.tup (g.2.1.map V.str))) (en_eu (eu_tupL (ev_op (ev_var (hj _)) ev_c (rv_ixL (sq_of hp) (atI_nat (j := 1) rfl))) (sq_of hq))) (fun v G e r => ena_ev (ea_cons (ev_op (ev_var (hj _)) ev_c (rv_ixL (sq_of (e _ _ hp)) (atI_nat (j := 2) rfl))) ea_nil)) fun v vs G G' r e r' => by
        obtain ⟨t, ys, rfl, ht, rfl⟩ := r
        exact ⟨t, by rw [r'], e _ _ ht⟩)).imp fun us G _ h => by
        obtain ⟨r, rfl, t, rfl, ht⟩ := h
        exact ⟨t, rfl, ht⟩) fun us G h => by
        obtain ⟨t, rfl, _⟩ := h
        simp) H1 eH Q fun v G' H2 n r' => q v G' H2 n ?_⟩
    obtain ⟨p2, ys, rfl, hp2, t, rfl, ht⟩ := r'
    exact ⟨p2, g, rfl, er, t, hp2, ht⟩)
  rw [List.length_map, hcn] at key
  exact key
theorem scNt : FnScope ["made", "sorts", "signs", "row", "results", "name"] ["made", "sorts", "signs"] (defScope (topS 34)) := ⟨rfl, rfl, rfl, by decide +kernel, rfl, by decide +kernel, by decide +kernel⟩
theorem ok_nt {f fs fu : Addr} {fd fds fdu : FuncData} (D : DefAt K mg 34 "_law_names_told" ["made", "sorts", "signs"] f fd) (S : SigC K C) (SM : GenAt P w K mg base 5 "_law_same" ["told", "due"] (spSame 4) fs fds) (UN : GenAt P w K mg base 4 "_law_unknown" ["made", "name", "way"] (spUnknown C) fu fdu) (N : Nm mg) (M : NmS mg)
    (M1 : MAt P w K mg base C (L2N.CX P w) 1 "capital" ["self", "sort"] (spLook ec C "_capitals") []) (M2 : MAt P w K mg base C (L2N.CX P w) 1 "is_bare" ["self", "sort"] (spBare ec C) []) (M3 : MAt P w K mg base C (L2N.CX P w) 1 "arguments" ["self", "sign"] (spLook ec C "_arguments") []) (M4 : MAt P w K mg base C (L2N.CX P w) 1 "result" ["self", "sign"] (spLook ec C "_results") []) :
    FnOk P w K mg base CX0 6 f fd ["made", "sorts", "signs"] (spNamesTold C) := by
  obtain ⟨f1, fd1, ds1, m1, F1, b1, v1⟩ := M1
  obtain ⟨f2, fd2, ds2, m2, F2, b2, v2⟩ := M2
  obtain ⟨f3, fd3, ds3, m3, F3, b3, v3⟩ := M3
  obtain ⟨f4, fd4, ds4, m4, F4, b4, v4⟩ := M4
  refine D.F.ok scNt (fun vs H Q E h => ?_) (fun cdv A outer s H vs Q E hr h => ?_)
  · obtain ⟨a, b, c, sorts, signs, rfl, _⟩ := h
    rfl
  · obtain ⟨a, b, c, sorts, signs, rfl, hM, hb, hc, hG, k⟩ := h
    refine ⟨_, (pss_cons (ps_if (PW.pt (pw_or (pt_not (pt_val (pe_call SM.F (hr.mono (by decide)) (by rfl) SM.g SM.kp SM.b .nil pass0 (pa_cons (pe_fld (pv 0) (by rfl)) (pa_cons (pe_callTy (T := "tuple") (call_tupK (K := K) rfl) (by rfl) M.tuple (by decide +kernel) (pa_cons (pe_lc (own := [("row", 3)]) (g := gName 3) rfl scNt.nd (pi_list (pv 1)) (blkOk_by (own := [("row", 3)]) (N := ["made", "sorts", "signs", "row", "results", "name"]) (sc := defScope (topS 34)) (by decide +kernel)) (fun _ _ _ _ _ => pg_name (i := 3) scNt.nd rfl (.inl rfl) (hf := .inr rfl)) (fun _ _ _ _ _ => pts_nil) (fun _ _ _ _ _ => (pe_callTy (T := "tuple") (call_tupK (K := K) rfl) (by rfl) M.tuple (by decide +kernel) (pa_cons (pv 3) pa_nil)))) pa_nil)) pa_nil))))) (pw_or1 (pt_not (pt_val (pe_call SM.F (hr.mono (by decide)) (by rfl) SM.g SM.kp SM.b .nil pass0 (pa_cons (pe_fld (pv 0) (by rfl)) (pa_cons (pe_ix (r := rIxL K) ix_list (pe_ix (r := rIxL K) ix_list (pv 1) pe_int (fun _ _ => rfl)) pe_int (fun _ _ => rfl)) pa_nil)))))))) (pss_one (ps_ret pe_bl)) pss_nil) (pss_cons (ps_if (pt_not (pt_val (pe_call SM.F (hr.mono (by decide)) (by rfl) SM.g SM.kp SM.b .nil pass0 (pa_cons (pe_fld (pv 0) (by rfl)) (pa_cons (pe_callTy (T := "tuple") (call_tupK (K := K) rfl) (by rfl) M.tuple (by decide +kernel) (pa_cons (pe_lc (own := [("row", 3)]) (g := gName 3) rfl scNt.nd (pi_list (pv 2)) (blkOk_by (own := [("row", 3)]) (N := ["made", "sorts", "signs", "row", "results", "name"]) (sc := defScope (topS 34)) (by decide +kernel)) (fun _ _ _ _ _ => pg_name (i := 3) scNt.nd rfl (.inl rfl) (hf := .inr rfl)) (fun _ _ _ _ _ => pts_nil) (fun _ _ _ _ _ => (pe_tup (pa_cons (pe_ix (r := rIxL K) ix_list (pv 3) pe_int (fun _ _ => rfl)) (pa_cons (pe_callTy (T := "tuple") (call_tupK (K := K) rfl) (by rfl) M.tuple (by decide +kernel) (pa_cons (pe_ix (r := rIxL K) ix_list (pv 3) pe_int (fun _ _ => rfl)) pa_nil)) (pa_cons (pe_ix (r := rIxL K) ix_list (pv 3) pe_int (fun _ _ => rfl)) pa_nil)))))) pa_nil)) pa_nil))))) (pss_one (ps_ret pe_bl)) pss_nil) (pss_cons (ps_setLc (i := 4) (own := [("row", 3)]) (g := gName 3) rfl scNt.nd rfl rfl (sw_true rfl rfl rfl (by decide +kernel)) (pi_list (pv 2)) (blkOk_by (own := [("row", 3)]) (N := ["made", "sorts", "signs", "row", "results", "name"]) (sc := defScope (topS 34)) (by decide +kernel)) (fun _ _ _ _ _ => pg_name (i := 3) scNt.nd rfl (.inl rfl) (hf := .inr rfl)) (fun _ _ _ _ _ => pts_nil) (fun _ _ _ _ _ => (pe_ix (r := rIxL K) ix_list (pv 3) pe_int (fun _ _ => rfl)))) (pss_cons (ps_for PassesOwn.never rfl (pi_list (pv 1)) (pg_name (i := 3) scNt.nd rfl (.inl rfl)) (pss_one (ps_if (PW.pt (pw_or (pt_not (pt_val (pe_call SM.F (hr.mono (by decide)) (by rfl) SM.g SM.kp SM.b .nil pass0 (pa_cons (pe_meth (pv 0) S.cl m1 F1 (hr.mono (by decide)) b1 v1 passF (pa_cons (pe_ix (r := rIxL K) ix_list (pv 3) pe_int (fun _ _ => rfl)) pa_nil)) (pa_cons (pe_ix (r := rIxL K) ix_list (pv 3) pe_int (fun _ _ => rfl)) pa_nil))))) (pw_or1 (pt_not (pt_val (pe_call SM.F (hr.mono (by decide)) (by rfl) SM.g SM.kp SM.b .nil pass0 (pa_cons (pe_meth (pv 0) S.cl m2 F2 (hr.mono (by decide)) b2 v2 passF (pa_cons (pe_ix (r := rIxL K) ix_list (pv 3) pe_int (fun _ _ => rfl)) pa_nil)) (pa_cons (pe_cmpR (r := rIn K true) op_notIn_seq (pe_ix (r := rIxL K) ix_list (pv 3) pe_int (fun _ _ => rfl)) (pv 4) rfl) pa_nil)))))))) (pss_one (ps_ret pe_bl)) pss_nil))) (pss_cons (ps_for PassesOwn.never rfl (pi_list (pv 2)) (pg_name (i := 3) scNt.nd rfl (.inl rfl)) (pss_one (ps_if (PW.pt (pw_or (pt_not (pt_val (pe_call SM.F (hr.mono (by decide)) (by rfl) SM.g SM.kp SM.b .nil pass0 (pa_cons (pe_meth (pv 0) S.cl m3 F3 (hr.mono (by decide)) b3 v3 passF (pa_cons (pe_ix (r := rIxL K) ix_list (pv 3) pe_int (fun _ _ => rfl)) pa_nil)) (pa_cons (pe_callTy (T := "tuple") (call_tupK (K := K) rfl) (by rfl) M.tuple (by decide +kernel) (pa_cons (pe_ix (r := rIxL K) ix_list (pv 3) pe_int (fun _ _ => rfl)) pa_nil)) pa_nil))))) (pw_or1 (pt_not (pt_val (pe_call SM.F (hr.mono (by decide)) (by rfl) SM.g SM.kp SM.b .nil pass0 (pa_cons (pe_meth (pv 0) S.cl m4 F4 (hr.mono (by decide)) b4 v4 passF (pa_cons (pe_ix (r := rIxL K) ix_list (pv 3) pe_int (fun _ _ => rfl)) pa_nil)) (pa_cons (pe_ix (r := rIxL K) ix_list (pv 3) pe_int (fun _ _ => rfl)) pa_nil)))))))) (pss_one (ps_ret pe_bl)) pss_nil))) (pss_cons (ps_for PassesOwn.never rfl (pi_list (pe_op (r := rCat) op_cat (pe_lc (own := [("row", 3)]) (g := gName 3) rfl scNt.nd (pi_list (pe_op (r := rCat) op_cat (pv 1) (pv 2))) (blkOk_by (own := [("row", 3)]) (N := ["made", "sorts", "signs", "row", "results", "name"]) (sc := defScope (topS 34)) (by decide +kernel)) (fun _ _ _ _ _ => pg_name (i := 3) scNt.nd rfl (.inl rfl) (hf := .inr rfl)) (fun _ _ _ _ _ => pts_nil) (fun _ _ _ _ _ => (pe_ix (r := rIxL K) ix_list (pv 3) pe_int (fun _ _ => rfl)))) (pe_lst (pa_cons pe_str (pa_cons pe_str (pa_cons (pe_ix (r := rIxL K) ix_list (pe_ix (r := rIxL K) ix_list (pv 1) pe_int (fun _ _ => rfl)) pe_int (fun _ _ => rfl)) pa_nil)))))) (pg_name (i := 5) scNt.nd rfl (.inl rfl)) (pss_cons (ps_if (PW.pt (pw_and (pt_cmpR (r := rIn K true) op_notIn_seq (pv 5) (pe_lc (own := [("row", 3)]) (g := gName 3) rfl scNt.nd (pi_list (pv 1)) (blkOk_by (own := [("row", 3)]) (N := ["made", "sorts", "signs", "row", "results", "name"]) (sc := defScope (topS 34)) (by decide +kernel)) (fun _ _ _ _ _ => pg_name (i := 3) scNt.nd rfl (.inl rfl) (hf := .inr rfl)) (fun _ _ _ _ _ => pts_nil) (fun _ _ _ _ _ => (pe_ix (r := rIxL K) ix_list (pv 3) pe_int (fun _ _ => rfl)))) rfl) (pw_and1 (pt_not (PW.pt (pw_and (pt_val (pe_call UN.F (hr.mono (by decide)) (by rfl) UN.g UN.kp UN.b .nil pass0 (pa_cons (pv 0) (pa_cons (pv 5) (pa_cons pe_int pa_nil))))) (pw_and1 (pt_val (pe_call UN.F (hr.mono (by decide)) (by rfl) UN.g UN.kp UN.b .nil pass0 (pa_cons (pv 0) (pa_cons (pv 5) (pa_cons pe_int pa_nil)))))))))))) (pss_one (ps_ret pe_bl)) pss_nil) (pss_one (ps_if (PW.pt (pw_and (pt_cmpR (r := rIn K true) op_notIn_seq (pv 5) (pe_lc (own := [("row", 3)]) (g := gName 3) rfl scNt.nd (pi_list (pv 2)) (blkOk_by (own := [("row", 3)]) (N := ["made", "sorts", "signs", "row", "results", "name"]) (sc := defScope (topS 34)) (by decide +kernel)) (fun _ _ _ _ _ => pg_name (i := 3) scNt.nd rfl (.inl rfl) (hf := .inr rfl)) (fun _ _ _ _ _ => pts_nil) (fun _ _ _ _ _ => (pe_ix (r := rIxL K) ix_list (pv 3) pe_int (fun _ _ => rfl)))) rfl) (pw_and1 (pt_not (PW.pt (pw_and (pt_val (pe_call UN.F (hr.mono (by decide)) (by rfl) UN.g UN.kp UN.b .nil pass0 (pa_cons (pv 0) (pa_cons (pv 5) (pa_cons pe_int pa_nil))))) (pw_and1 (pt_val (pe_call UN.F (hr.mono (by decide)) (by rfl) UN.g UN.kp UN.b .nil pass0 (pa_cons (pv 0) (pa_cons (pv 5) (pa_cons pe_int pa_nil)))))))))))) (pss_one (ps_ret pe_bl)) pss_nil)))) (pss_one (ps_ret pe_bl)))))))), ?_⟩
    have z8 := hG.s8
    have z12 := hG.g12
    obtain ⟨pc, ps, pa, pr, ts, tg, sg, said, hAt, hNo, _, _, _, _, _, _, hTs, hTg, hsaid⟩ := id hM
    obtain ⟨r0, er0⟩ : ∃ r, sorts[0]? = some r := ⟨_, List.getElem?_eq_getElem (by have := hG.s1; omega)⟩
    have hs0 : said = r0.1 := by
      rw [List.getElem?_map, er0] at hsaid
      exact (Option.some.inj hsaid).symm
    subst hs0
    have fld : ∀ {G : Hp} {σ : L2.St} {f : Str} {v : V}, Ex H G → σ[0]? = some (some (.ref a)) → (f, v) ∈ ([("_capitals", .ref pc), ("_sorts", .ref ps), ("_arguments", .ref pa), ("_results", .ref pr), ("sorts", .ref ts), ("signs", .ref tg), ("said", .str r0.1)] : List (Str × V)) → f ∈ (["_capitals", "_sorts", "_arguments", "_results", "sorts", "signs", "said"] : List Str) → Ev (tFld K (tVar 0) f) σ G v := fun e h hm hf => ev_fld S (ev_var h) (hAt.ex e) hm hf
    have sm1 : Ev (tCall (spSame 4) [] E0 (tCons (tFld K (tVar 0) "sorts") (tCons (tCB (rTupSq K) (tCons (tLc (iList K (tVar 1)) (gName 3) tYes (tCB (rTupSq K) (tCons (tVar 3) tNil)) [3]) tNil)) tNil))) [some (.ref a), some (.ref b), some (.ref c), none, none, none] H (.bl true) :=
      ev_same (R1 := fun u G => u = .ref ts) (R2 := fun v G => IsT (RowsR RowT sorts.length sorts) v G ∧ TupsAt RowT G ts sorts) (en_ev (fld (Ex.refl H) rfl (by simp) (by decide))) (fun G e => (en_rowsT (rowsAt_mono hb e) (ev_var rfl) (by omega) (fun _ => rfl) (fun _ => rfl)).imp fun v G' e' h => ⟨h, hTs.row (ExTSt (e.trans e'))⟩) fun x y G G' r1 e r2 => by
        obtain ⟨t, rfl, ht⟩ := tups_of rfl r2.1
        rw [r1]
        exact (same_tups (n := 3) r2.2 ht (fun p q r _ h1 h2 => same_row h1 h2) (by omega))
    have sm2 : ∀ {G : Hp}, Ex H G → Ev (tCall (spSame 4) [] E0 (tCons (tFld K (tVar 0) "said") (tCons (tOp (rIxL K) (tOp (rIxL K) (tVar 1) (tC (.int 0))) (tC (.int 0))) tNil))) [some (.ref a), some (.ref b), some (.ref c), none, none, none] G (.bl true) := fun e =>
      ev_sameF rfl (fld e rfl (by simp) (by decide)) fun G' e' => ev_row0 (k := 0) (rowsAt_mono hb (e.trans e')) er0 (ev_var rfl) ev_c
    refine q_when (b := false) (et_is (et_or (et_not (et_B sm1)) fun _ => et_not (et_B (sm2 (Ex.refl H)))) rfl) (fun z => by cases z) (fun _ H1 e1 => ?_)
    have sm3 : Ev (tCall (spSame 4) [] E0 (tCons (tFld K (tVar 0) "signs") (tCons (tCB (rTupSq K) (tCons (tLc (iList K (tVar 2)) (gName 3) tYes (tTup (tCons (tOp (rIxL K) (tVar 3) (tC (.int 0))) (tCons (tCB (rTupSq K) (tCons (tOp (rIxL K) (tVar 3) (tC (.int 1))) tNil)) (tCons (tOp (rIxL K) (tVar 3) (tC (.int 2))) tNil)))) [3]) tNil)) tNil))) [some (.ref a), some (.ref b), some (.ref c), none, none, none] H1 (.bl true) :=
      ev_same (R1 := fun u G => u = .ref tg) (R2 := fun v G => IsT (RowsR SgnT signs.length signs) v G ∧ TupsAt SgnT G tg signs) (en_ev (fld e1 rfl (by simp) (by decide))) (fun G e => (en_sgnsT (sgnsAt_mono hc (e1.trans e)) (ev_var rfl) (by omega) (fun _ => rfl) (fun _ => rfl)).imp fun v G' e' h => ⟨h, hTg.sgn (ExTSt ((e1.trans e).trans e'))⟩) fun x y G G' r1 e r2 => by
        obtain ⟨t, rfl, ht⟩ := tups_of rfl r2.1
        rw [r1]
        exact (same_tups (n := 3) r2.2 ht (fun p q r hr h1 h2 => same_sgn (by have := (hG.sgn r hr).2.1; omega) h1 h2) (by omega))
    refine q_when (b := false) (et_is (et_not (et_B sm3)) rfl) (fun z => by cases z) (fun _ H2 e2 => ?_)
    have e2 := e1.trans e2
    have prow : ∀ (H1 H2 : Hp) (p : Addr) (r : Row), Ex H1 H2 → RowAt H1 p r → RowAt H2 p r := fun _ _ _ _ e h => row_mono e _ _ h
    have psgn : ∀ (H1 H2 : Hp) (p : Addr) (r : Sgn), Ex H1 H2 → SgnAt H1 p r → SgnAt H2 p r := fun _ _ _ _ e h => sgn_mono e _ _ h
    have hres : EvL (tLc (iList K (tVar 2)) (gName 3) tYes (tOp (rIxL K) (tVar 3) (tC (.int 2))) [3]) [some (.ref a), some (.ref b), some (.ref c), none, none, none] H2 ((signs.map (·.2.2)).map V.str) := by
      rw [List.map_map]
      exact el_col (f := SgnAt) psgn sgn_c2 (sgnsAt_mono hc e2) (ev_var rfl) (by omega) (fun _ => rfl) (fun _ => rfl)
    refine q_asgL hres fun pq H3 npq e3 h3 => ?_
    obtain ⟨ads, hbl, hbn, hrow⟩ := id hb
    obtain ⟨gds, hcl, hcn, hsgn⟩ := id hc
    have e3 := e2.trans e3
    refine q_forLn (j := 3) (xs := ads.map V.ref) (ev_var rfl) (sq_of (e3 _ _ hbl)) (fun i σ' H' => (∃ u3 u5, σ' = [some (.ref a), some (.ref b), some (.ref c), u3, some (.ref pq), u5]) ∧ Ex H H' ∧ H' pq = some (.lst ((signs.map (·.2.2)).map V.str)))
      (fun H4 e4 => ⟨⟨_, _, rfl⟩, e3.trans e4, e4 _ _ h3⟩) (fun i σ' H' _ p => sq_of (p.2.1 _ _ hbl)) (fun i v σ' H4 hv p => ?_) (fun σ' H4 p => ?_)
    · obtain ⟨⟨u3, u5, rfl⟩, e4, h4⟩ := p
      obtain ⟨r, er⟩ : ∃ r, sorts[i]? = some r := ⟨_, List.getElem?_eq_getElem (by have := (List.getElem?_eq_some_iff.mp hv).1; rw [List.length_map] at this; omega)⟩
      obtain ⟨p, rfl, hp⟩ := ads_at hrow hv er
      have hr := List.mem_of_getElem? er
      have c0 : ∀ {G : Hp} {σ : L2.St}, Ex H4 G → σ[3]? = some (some (.ref p)) → Ev (tOp (rIxL K) (tVar 3) (tC (.int 0))) σ G (.str r.1) := fun e h => ev_op (ev_var h) ev_c (rv_ixL (sq_of (e _ _ (e4 _ _ hp))) (atI_nat (j := 0) rfl))
      have c1 : ∀ {G : Hp} {σ : L2.St}, Ex H4 G → σ[3]? = some (some (.ref p)) → Ev (tOp (rIxL K) (tVar 3) (tC (.int 1))) σ G (.str r.2) := fun e h => ev_op (ev_var h) ev_c (rv_ixL (sq_of (e _ _ (e4 _ _ hp))) (atI_nat (j := 1) rfl))
      refine s_when (b := false) (et_is (et_or (et_not (et_B (ev_sameF rfl (ev_cap (hM.mono e4) hG (ev_var rfl) hr (c0 (Ex.refl _) rfl)) fun G e => c1 e rfl))) fun _ => et_not (et_B (ev_sameF rfl (ev_bare (hM.mono e4) hG (ev_var rfl) hr (c0 (Ex.refl _) rfl)) fun G e => ?_))) rfl) (fun z => by cases z) (fun _ H5 e5 => ⟨⟨_, _, rfl⟩, e4.trans e5, e5 _ _ h4⟩)
      exact ev_is (ev_op (c0 e rfl) (ev_var rfl) (rv_niL (sq_of (e _ _ h4)) rfl (flat_txt _))) (by rw [inV_txt])
    · obtain ⟨⟨u3, u5, rfl⟩, e4, h4⟩ := p
      refine q_forLn (j := 3) (xs := gds.map V.ref) (ev_var rfl) (sq_of (e4 _ _ hcl)) (fun i σ' H' => (∃ u3 u5, σ' = [some (.ref a), some (.ref b), some (.ref c), u3, some (.ref pq), u5]) ∧ Ex H H')
        (fun H5 e5 => ⟨⟨_, _, rfl⟩, e4.trans e5⟩) (fun i σ' H' _ p => sq_of (p.2 _ _ hcl)) (fun i v σ' H5 hv p => ?_) (fun σ' H5 p => ?_)
      · obtain ⟨⟨u3, u5, rfl⟩, e5⟩ := p
        obtain ⟨g, er⟩ : ∃ r, signs[i]? = some r := ⟨_, List.getElem?_eq_getElem (by have := (List.getElem?_eq_some_iff.mp hv).1; rw [List.length_map] at this; omega)⟩
        obtain ⟨p, rfl, q0, hp, hq0⟩ := ads_at hsgn hv er
        have hg := List.mem_of_getElem? er
        have c0 : ∀ {G : Hp} {σ : L2.St}, Ex H5 G → σ[3]? = some (some (.ref p)) → Ev (tOp (rIxL K) (tVar 3) (tC (.int 0))) σ G (.str g.1) := fun e h => ev_op (ev_var h) ev_c (rv_ixL (sq_of (e _ _ (e5 _ _ hp))) (atI_nat (j := 0) rfl))
        have c2 : ∀ {G : Hp} {σ : L2.St}, Ex H5 G → σ[3]? = some (some (.ref p)) → Ev (tOp (rIxL K) (tVar 3) (tC (.int 2))) σ G (.str g.2.2) := fun e h => ev_op (ev_var h) ev_c (rv_ixL (sq_of (e _ _ (e5 _ _ hp))) (atI_nat (j := 2) rfl))
        obtain ⟨t, ht, hat⟩ := ev_arg (E := E0) (hM.mono e5) hG (ev_var rfl : Ev (tVar 0) [some (.ref a), some (.ref b), some (.ref c), some (.ref p), some (.ref pq), u5] H5 (.ref a)) hg (c0 (Ex.refl _) rfl)
        refine s_when (b := false) (et_is (et_or (et_not (et_B (ev_same (R1 := fun u G => u = .ref t) (R2 := fun v G => IsT (fun ys _ => ys = g.2.1.map V.str) v G ∧ G t = some (.tup (g.2.1.map V.str))) (en_ev hat) (fun G e => (en_eu (eu_tupL (ev_op (ev_var rfl) ev_c (rv_ixL (sq_of (e _ _ (e5 _ _ hp))) (atI_nat (j := 1) rfl))) (sq_of (e _ _ (e5 _ _ hq0))))).imp fun v G' e' h => ⟨h, e' _ _ (e _ _ ht)⟩) fun x y G G' r1 e r2 => ?_))) fun _ => et_not (et_B (ev_sameF rfl (ev_res (hM.mono e5) hG (ev_var rfl) hg (c0 (Ex.refl _) rfl)) fun G e => c2 e rfl))) rfl) (fun z => by cases z) (fun _ H6 e6 => ⟨⟨_, _, rfl⟩, e5.trans e6⟩)
        obtain ⟨⟨q, ys, rfl, hq, rfl⟩, ht'⟩ := r2
        rw [r1]
        exact same_strs (flat_strs g.2.1) (by rw [List.length_map]; have := (hG.sgn g hg).2.1; omega) (.inr ⟨ht', hq⟩)
      · obtain ⟨⟨u3, u5, rfl⟩, e5⟩ := p
        have e5b := e5 _ _ hbl
        have e5c := e5 _ _ hcl
        have names : EvL (tLc (iList K (tOp rCat (tVar 1) (tVar 2))) (gName 3) tYes (tOp (rIxL K) (tVar 3) (tC (.int 0))) [3]) [some (.ref a), some (.ref b), some (.ref c), u3, some (.ref pq), u5] H5 ((sorts.map (·.1) ++ signs.map (·.1)).map V.str) := by
          have hcat : EvL (tOp rCat (tVar 1) (tVar 2)) [some (.ref a), some (.ref b), some (.ref c), u3, some (.ref pq), u5] H5 (ads.map V.ref ++ gds.map V.ref) := fun H1 e Q q =>
            ⟨_, rfl, _, rfl, b, c, _, _, rfl, rfl, e _ _ e5b, e _ _ e5c, by rw [List.length_map, List.length_map]; exact sz_of (by omega), fun l hl => q l _ hl (Ex.new hl) upd_same⟩
          refine el_lcNM (sorts.map (·.1) ++ signs.map (·.1)) V.str hcat (by simp [hbn, hcn]) (by simp; omega) (fun _ => rfl) fun i x s0 H6 e6 hx hs => ?_
          have : ∃ p rest, x = .ref p ∧ H5 p = some (.lst (.str s0 :: rest)) := by
            by_cases hi : i < sorts.length
            · rw [List.getElem?_append_left (by rw [List.length_map, hbn]; exact hi)] at hx
              rw [List.getElem?_append_left (by rw [List.length_map]; exact hi), List.getElem?_map] at hs
              obtain ⟨r, er⟩ : ∃ r, sorts[i]? = some r := ⟨_, List.getElem?_eq_getElem hi⟩
              rw [er] at hs
              obtain ⟨p, rfl, hp⟩ := ads_at hrow hx er
              obtain rfl : r.1 = s0 := Option.some.inj hs
              exact ⟨p, _, rfl, e5 _ _ hp⟩
            · rw [List.getElem?_append_right (by rw [List.length_map, hbn]; omega), List.length_map, hbn] at hx
              rw [List.getElem?_append_right (by rw [List.length_map]; omega), List.length_map, List.getElem?_map] at hs
              obtain ⟨g, er⟩ : ∃ g, signs[i - sorts.length]? = some g := ⟨_, List.getElem?_eq_getElem (by have := (List.getElem?_eq_some_iff.mp hx).1; rw [List.length_map] at this; omega)⟩
              rw [er] at hs
              obtain ⟨p, rfl, q, hp, _⟩ := ads_at hsgn hx er
              obtain rfl : g.1 = s0 := Option.some.inj hs
              exact ⟨p, _, rfl, e5 _ _ hp⟩
          obtain ⟨p, rest, rfl, hp⟩ := this
          exact ev_op (ev_var rfl) ev_c (rv_ixL (sq_of (e6 _ _ hp)) (atI_nat (j := 0) rfl))
        have all : EvL (tOp rCat (tLc (iList K (tOp rCat (tVar 1) (tVar 2))) (gName 3) tYes (tOp (rIxL K) (tVar 3) (tC (.int 0))) [3]) (tLst (tCons (tC (.str "noName")) (tCons (tC (.str "")) (tCons (tOp (rIxL K) (tOp (rIxL K) (tVar 1) (tC (.int 0))) (tC (.int 1))) tNil))))) [some (.ref a), some (.ref b), some (.ref c), u3, some (.ref pq), u5] H5 ((allN sorts signs r0.2).map V.str) := by
          unfold allN
          rw [List.map_append]
          exact el_catN names (el_lst (ea_cons ev_c (ea_cons ev_c (ea_cons (ev_row1 (k := 0) (rowsAt_mono hb e5) er0 (ev_var rfl) ev_c) ea_nil))) (by simp)) (by simp; omega)
        refine q_forNLn (j := 5) all (fun q i σ' H' => (∃ u3 u5, σ' = [some (.ref a), some (.ref b), some (.ref c), u3, some (.ref pq), u5]) ∧ Ex H H' ∧ H' q = some (.lst ((allN sorts signs r0.2).map V.str)))
          (fun q H6 nq e6 h6 => ⟨⟨_, _, rfl⟩, e5.trans e6, h6⟩) (fun q i σ' H' _ p => sq_of p.2.2) (fun q i v σ' H6 hv p => ?_) (fun q σ' H6 p => ?_)
        · obtain ⟨⟨u3, u5, rfl⟩, e6, h6⟩ := p
          rw [List.getElem?_map] at hv
          cases ex : (allN sorts signs r0.2)[i]? with
          | none => rw [ex] at hv; cases hv
          | some x =>
            rw [ex] at hv
            obtain rfl : V.str x = v := Option.some.inj hv
            have cs : ∀ {G : Hp} {σ : L2.St}, Ex H6 G → σ[1]? = some (some (.ref b)) → (∀ v, wipe ((wipe σ [3]).set 3 (some v)) [3] = wipe σ [3]) → (∀ v, ((wipe σ [3]).set 3 (some v))[3]? = some (some v)) → (wipe σ [3])[1]? = some (some (.ref b)) → EvL (tLc (iList K (tVar 1)) (gName 3) tYes (tOp (rIxL K) (tVar 3) (tC (.int 0))) [3]) σ G ((sorts.map (·.1)).map V.str) := fun e h hw hj _ => by
              rw [List.map_map]
              exact el_col (f := RowAt) prow row_c0 (rowsAt_mono hb (e6.trans e)) (ev_var h) (by omega) hw hj
            have cg : ∀ {G : Hp} {σ : L2.St}, Ex H6 G → σ[2]? = some (some (.ref c)) → (∀ v, wipe ((wipe σ [3]).set 3 (some v)) [3] = wipe σ [3]) → (∀ v, ((wipe σ [3]).set 3 (some v))[3]? = some (some v)) → EvL (tLc (iList K (tVar 2)) (gName 3) tYes (tOp (rIxL K) (tVar 3) (tC (.int 0))) [3]) σ G ((signs.map (·.1)).map V.str) := fun e h hw hj => by
              rw [List.map_map]
              exact el_col (f := SgnAt) psgn sgn_c0 (sgnsAt_mono hc (e6.trans e)) (ev_var h) (by omega) hw hj
            refine q_when (b := false) (et_is (et_and (b := false) (et_test (ev_niTx (ev_var rfl) (cs (Ex.refl _) rfl (fun _ => rfl) (fun _ => rfl) rfl))) fun hn => et_is (et_not (et_and (et_B (ev_unk (way := 0) (hM.mono e6) hG (ev_var rfl) (ev_var rfl) ev_c (fun _ => by simpa using hn) (fun z => absurd rfl z))) fun _ => et_B (ev_unk (way := 1) (hM.mono e6) hG (ev_var rfl) (ev_var rfl) ev_c (fun _ => by simpa using hn) (fun _ z => absurd rfl z)))) rfl) (Bool.and_false _)) (fun z => by cases z) (fun _ H7 e7 => ?_)
            refine s_when (b := false) (et_is (et_and (b := false) (et_test (ev_niTx (ev_var rfl) (cg e7 rfl (fun _ => rfl) (fun _ => rfl)))) fun hn => et_is (et_not (et_and (et_B (ev_unk (way := 2) (hM.mono (e6.trans e7)) hG (ev_var rfl) (ev_var rfl) ev_c (fun z => by omega) (fun _ _ => by simpa using hn))) fun _ => et_B (ev_unk (way := 3) (hM.mono (e6.trans e7)) hG (ev_var rfl) (ev_var rfl) ev_c (fun z => by omega) (fun _ _ => by simpa using hn)))) rfl) (Bool.and_false _)) (fun z => by cases z) (fun _ H8 e8 => ⟨⟨_, _, rfl⟩, (e6.trans e7).trans e8, e8 _ _ (e7 _ _ h6)⟩)
        · obtain ⟨⟨u3, u5, rfl⟩, e6, h6⟩ := p
          exact s_ret ev_c fun H7 e7 => k H7 (e6.trans e7)
end
end K01
-- E24
namespace K01
open PySem PySem.Spec PyProof.Rows L2 Evl KEv TL KDd KSq KSame KTxt KHot KSup KNew KRvT KD
/-! _law_handed -/
section
variable {P : Program} {w : World} {K : PySem.W.Frag} {mg : Str → Option Value} {base : Heap} {σ : L2.St} {H : Hp} {ec : EK → Addr} {C : Addr}
/-- the class asked by isinstance -/
structure InsK (K : PySem.W.Frag) (C : Addr) : Prop where
  ha : PySem.W.findIn K (.ref C) "__class__" = some (some (.builtin "object.__class__"))
  hn : PySem.W.specialIn K (.builtin "object.__class__") "__get__" = some (some (.builtin "getset_descriptor.__get__"))
  ht : PySem.W.takesIn K (.builtin "object.__class__") = some true
  hm : PySem.W.mroIn K C (.type "object") = some true
  no : PySem.W.kitOne K (.ref C) (.type "list") = some false
def spHanded (C : Addr) : Sp := fun vs H Q _ => ∃ (b c : Addr) (sorts : List Row) (signs : List Sgn), vs = [.ref b, .ref c] ∧ RowsAt RowAt H b sorts ∧ RowsAt SgnAt H c signs ∧ SzOk sorts signs ∧
  (firstFault sorts signs ≠ none → ∀ p H', H p = none → Ex H H' → H' p = some (.lst [.bl true, .non]) → Q (.ref p) H') ∧
  (firstFault sorts signs = none → ∀ p a H', H p = none → H a = none → Ex H H' → H' p = some (.lst [.bl true, .ref a]) → MadeAt C H' a sorts signs → Q (.ref p) H')
def FfR : Option (EK × Str) → V → Hp → Prop
  | none => fun v _ => v = .non
  | some (k, s) => IsT fun ys _ => ys = [.str (nmE k), .str s]
theorem FfR.mono {o : Option (EK × Str)} {v : V} {H' : Hp} (h : FfR o v H) (e : Ex H H') : FfR o v H' := by
  match o, h with
  | none, h => exact h
  | some (k, s), h =>
    obtain ⟨t, ys, z1, z2, z3⟩ := h
    exact ⟨t, ys, z1, e _ _ z2, z3⟩
theorem en_ff {ta tb : TE} {b c : Addr} {sorts : List Row} {signs : List Sgn} {E : XK} (hb : RowsAt RowAt H b sorts) (hc : RowsAt SgnAt H c signs) (hz : SzOk sorts signs) (h1 : Ev ta σ H (.ref b)) (h2 : Ev tb σ H (.ref c)) : EvN (tCall spFf [] E (tCons ta (tCons tb tNil))) σ H (FfR (firstFault sorts signs)) := fun H1 e Q q =>
  h1 H1 e _ fun H2 e2 => h2 H2 (e.trans e2) _ fun H3 e3 => by
    have e13 := (e.trans e2).trans e3
    refine ⟨b, c, sorts, signs, rfl, rowsAt_mono hb e13, sgnsAt_mono hc e13, hz.1, hz.2.1, hz.2.2.1, hz.2.2.2, ?_⟩
    cases ho : firstFault sorts signs with
    | none =>
      rw [ho] at q
      exact fun H4 e4 => q .non H H4 ((Nw.refl e).go ((e2.trans e3).trans e4)) rfl
    | some f =>
      rw [ho] at q
      exact fun p H4 hp e4 h4 => q (.ref p) _ H4 ((Nw.refl e).add (fresh_back (e2.trans e3) hp) ((e2.trans e3).trans e4) h4) ⟨p, _, rfl, upd_same, rfl⟩
theorem RowsAt.map {α : Type} {f g : Hp → Addr → α → Prop} {H' : Hp} {b : Addr} {rs : List α} (h : RowsAt f H b rs) (hf : ∀ p r, f H p r → g H' p r) (e : Ex H H') : RowsAt g H' b rs := by
  obtain ⟨ads, h1, h2, h3⟩ := h
  exact ⟨ads, e _ _ h1, h2, fun i p r h4 h5 => hf _ _ (h3 i p r h4 h5)⟩
def FrRow (H : Hp) : Hp → Addr → Row → Prop := fun G p r => H p = none ∧ RowAt G p r
def FrSgn (H : Hp) : Hp → Addr → Sgn → Prop := fun G p g => H p = none ∧ ∃ q, H q = none ∧ G p = some (.lst [.str g.1, .ref q, .str g.2.2]) ∧ G q = some (.lst (g.2.1.map V.str))
theorem frRow_mono (B H H' : Hp) (p : Addr) (r : Row) (e : Ex H H') (h : FrRow B H p r) : FrRow B H' p r := ⟨h.1, e _ _ h.2⟩
theorem frSgn_mono (B H H' : Hp) (p : Addr) (g : Sgn) (e : Ex H H') (h : FrSgn B H p g) : FrSgn B H' p g := by
  obtain ⟨h0, q, h1, h2, h3⟩ := h
  exact ⟨h0, q, h1, e _ _ h2, e _ _ h3⟩
theorem rows_ofL {α : Type} {f : Hp → Addr → α → Prop} {G : Hp} {rs : List α} {v : V} {n : Nat} (hn : n = rs.length) (h : FrL H (RowsR f n rs) v G) : ∃ p, v = .ref p ∧ H p = none ∧ RowsAt f G p rs := by
  obtain ⟨t, ys, rfl, h0, ht, hl, hy⟩ := h
  obtain ⟨ads, rfl, h2, h3⟩ := refsOf1 (f := f) (hl.trans hn) hy
  exact ⟨t, rfl, h0, ads, ht, h2, h3⟩
/-- [list(row) for row in sorts] -/
theorem en_copyS {tl : TE} {b : Addr} {sorts : List Row} {j : Nat} {vs : List Nat} (hb : RowsAt RowAt H b sorts) (h : Ev tl σ H (.ref b)) (hz : sorts.length ≤ 40000) (hw : ∀ x, wipe ((wipe σ vs).set j (some x)) vs = wipe σ vs) (hj : ∀ x, ((wipe σ vs).set j (some x))[j]? = some (some x)) :
    EvN (tLc (iList K tl) (gName j) tYes (tCB (rListS K) (tCons (tVar j) tNil)) vs) σ H (FrL H (RowsR (FrRow H) sorts.length sorts)) := by
  obtain ⟨ads, hbl, hbn, hrow⟩ := hb
  have key := en_lcLF (K := K) (σ := σ) (g := gName j) (te := tCB (rListS K) (tCons (tVar j) tNil)) (vs := vs) (xs := ads.map V.ref) (fun i y G => ∃ p r, y = V.ref p ∧ sorts[i]? = some r ∧ FrRow H G p r) (fun i y G G' h e => by
    obtain ⟨p, r, z1, z2, z3⟩ := h
    exact ⟨p, r, z1, z2, frRow_mono _ _ _ _ _ e z3⟩) h (sq_of hbl) (by rw [List.length_map]; omega) fun i x G H1 eG eH hx Q q => by
    obtain ⟨r, er⟩ : ∃ r, sorts[i]? = some r := ⟨_, List.getElem?_eq_getElem (by have := (List.getElem?_eq_some_iff.mp hx).1; rw [List.length_map] at this; omega)⟩
    obtain ⟨p, rfl, hp⟩ := ads_at hrow hx er
    refine ⟨hw _, (en_elF (el_list (ev_var (hj _)) (sq_of (eG _ _ hp)))) H1 eH Q fun v G' H2 n r' => q v G' H2 n ?_⟩
    obtain ⟨t, ys, rfl, h0, ht, rfl⟩ := r'
    exact ⟨t, r, rfl, er, fresh_back eG h0, ht⟩
  rw [List.length_map, hbn] at key
  exact key
/-- [[row[0], list(row[1]), row[2]] for row in signs] -/
theorem en_copyG {tl : TE} {c : Addr} {signs : List Sgn} {j : Nat} {vs : List Nat} (hc : RowsAt SgnAt H c signs) (h : Ev tl σ H (.ref c)) (hz : signs.length ≤ 40000) (hw : ∀ x, wipe ((wipe σ vs).set j (some x)) vs = wipe σ vs) (hj : ∀ x, ((wipe σ vs).set j (some x))[j]? = some (some x)) :
    EvN (tLc (iList K tl) (gName j) tYes (tLst (tCons (tOp (rIxL K) (tVar j) (tC (.int 0))) (tCons (tCB (rListS K) (tCons (tOp (rIxL K) (tVar j) (tC (.int 1))) tNil)) (tCons (tOp (rIxL K) (tVar j) (tC (.int 2))) tNil)))) vs) σ H (FrL H (RowsR (FrSgn H) signs.length signs)) := by
  obtain ⟨gds, hcl, hcn, hsgn⟩ := hc
  have key := en_lcLF (K := K) (σ := σ) (g := gName j) (te := tLst (tCons (tOp (rIxL K) (tVar j) (tC (.int 0))) (tCons (tCB (rListS K) (tCons (tOp (rIxL K) (tVar j) (tC (.int 1))) tNil)) (tCons (tOp (rIxL K) (tVar j) (tC (.int 2))) tNil)))) (vs := vs) (xs := gds.map V.ref) (fun i y G => ∃ p r, y = V.ref p ∧ signs[i]? = some r ∧ FrSgn H G p r) (fun i y G G' h e => by
    obtain ⟨p, r, z1, z2, z3⟩ := h
    exact ⟨p, r, z1, z2, frSgn_mono _ _ _ _ _ e z3⟩) h (sq_of hcl) (by rw [List.length_map]; omega) fun i x G H1 eG eH hx Q q => by
    obtain ⟨g, er⟩ : ∃ r, signs[i]? = some r := ⟨_, List.getElem?_eq_getElem (by have := (List.getElem?_eq_some_iff.mp hx).1; rw [List.length_map] at this; omega)⟩
    obtain ⟨p, rfl, q0, hp, hq⟩ := ads_at hsgn hx er
    have hp := eG _ _ hp
    have hq := eG _ _ hq
    refine ⟨hw _, (en_lstF (Rs := fun us G' => ∃ t, us = [.str g.1, .ref t, .str g.2.2] ∧ G t = none ∧ G' t = some (.lst (g.2.1.map V.str))) (fun us G G' h e => by
        obtain ⟨t, z1, z0, z2⟩ := h
        exact ⟨t, z1, z0, e _ _ z2⟩) ((ena_consV (ev_op (ev_var (hj _)) ev_c (rv_ixL (sq_of hp) (atI_nat (j := 0) rfl))) (ena_cons (Rr := fun _ vs _ => vs = [.str g.2.2]) (Rw := fun us G' => ∃ t, us = [.ref t, .str g.2.2] ∧ G t = none ∧ G' t = some (.lst (g.2.1.map V.str))) (en_elF (el_list (ev_op (ev_var (hj _)) ev_c (rv_ixL (sq_of hp) (atI_nat (j := 1) rfl))) (sq_of hq))) (fun v G e r => ena_ev (ea_cons (ev_op (ev_var (hj _)) ev_c (rv_ixL (sq_of (e _ _ hp)) (atI_nat (j := 2) rfl))) ea_nil)) fun v vs G G' r e r' => by
        obtain ⟨t, ys, rfl, h0, ht, rfl⟩ := r
        exact ⟨t, by rw [r'], h0, e _ _ ht⟩)).imp fun us G _ h => by
        obtain ⟨r, rfl, t, rfl, ht⟩ := h
        exact ⟨t, rfl, ht⟩) fun us G h => by
        obtain ⟨t, rfl, _⟩ := h
        simp) H1 eH Q fun v G' H2 n r' => q v G' H2 n ?_⟩
    obtain ⟨p2, ys, rfl, h0, hp2, t, rfl, h1, ht⟩ := r'
    exact ⟨p2, g, rfl, er, fresh_back eG h0, t, fresh_back eG h1, hp2, ht⟩
  rw [List.length_map, hcn] at key
  exact key
def GivenR (H : Hp) (sorts : List Row) (signs : List Sgn) : V → Hp → Prop := fun v G => ∃ pg b' c', v = .ref pg ∧ H pg = none ∧ G pg = some (.lst [.ref b', .ref c']) ∧ H b' = none ∧ RowsAt (FrRow H) G b' sorts ∧ H c' = none ∧ RowsAt (FrSgn H) G c' signs
/-- what is told of the made one or of the fault -/
def ToldOk (C : Addr) (B : Hp) (sorts : List Row) (signs : List Sgn) (v : V) (H : Hp) : Prop := (∀ k s, firstFault sorts signs = some (k, s) → ∃ p q, v = .ref p ∧ B p = none ∧ H p = some (.lst [.ref q]) ∧ H q = some (.tup [.str (nmE k), .str s])) ∧ (firstFault sorts signs = none → ∃ a, v = .ref a ∧ B a = none ∧ MadeAt C H a sorts signs)
theorem q_asgMade {D : Ends} {tz : TS} {t : TA} {b c : Addr} {i : Nat} {sorts : List Row} {signs : List Sgn} {E : XK} (h : EvA t σ H [.ref b, .ref c]) (hb : RowsAt RowAt H b sorts) (hc : RowsAt SgnAt H c signs) (hz : SzOk sorts signs) (k : ∀ v H', Ex H H' → ToldOk C H sorts signs v H' → tz D (σ.set i (some v)) H') :
    tSeq (tAsg (tCall (spMade ec C) [] E t) (gName i)) tz D σ H := h H (Ex.refl H) _ fun H1 e1 => ⟨b, c, sorts, signs, rfl, rowsAt_mono hb e1, sgnsAt_mono hc e1, hz,
  fun k0 s hf p q H2 hp e2 h1 h2 => k _ H2 (e1.trans e2) ⟨fun k1 s1 hf1 => by
    rw [hf] at hf1
    cases hf1
    exact ⟨p, q, rfl, fresh_back e1 hp, h1, h2⟩, fun hn => by rw [hf] at hn; cases hn⟩,
  fun hf a H2 ha e2 hM => k _ H2 (e1.trans e2) ⟨fun k1 s1 hf1 => (by rw [hf] at hf1; cases hf1), fun _ => ⟨a, rfl, fresh_back e1 ha, hM⟩⟩⟩
open Classical in
/-- H without what F tells -/
noncomputable def hideP (F : Addr → Prop) (H : Hp) : Hp := fun b => if F b then none else H b
theorem hideP_at {F : Addr → Prop} {b : Addr} (h : F b) : hideP F H b = none := by
  unfold hideP
  rw [if_pos h]
theorem hideP_ne {F : Addr → Prop} {b : Addr} (h : ¬ F b) : hideP F H b = H b := by
  unfold hideP
  rw [if_neg h]
theorem hideP_ex {F : Addr → Prop} : Ex (hideP F H) H := fun b o e => by
  by_cases h : F b
  · rw [hideP_at h] at e
    cases e
  · rwa [hideP_ne h] at e
/-- all but lists stay -/
theorem MadeAt.nl {H' : Hp} {a : Addr} {sorts : List Row} {signs : List Sgn} (h : MadeAt C H a sorts signs) (e : ∀ p o, H p = some o → (∀ xs, o ≠ .lst xs) → H' p = some o) : MadeAt C H' a sorts signs := by
  obtain ⟨pc, ps, pa, pr, ts, tg, sg, said, ⟨dx, fs, h1, h1'⟩, ⟨dx2, fs2, h2, h3⟩, h4, h5, h6, h7, h8, h9, h10, h11, h12⟩ := h
  have et : TSt H H' := fun p xs hp => e _ _ hp (fun _ z => nomatch z)
  exact ⟨pc, ps, pa, pr, ts, tg, sg, said, ⟨dx, fs, e _ _ h1 (fun _ z => nomatch z), h1'⟩, ⟨dx2, fs2, e _ _ h2 (fun _ z => nomatch z), h3⟩, e _ _ h4 (fun _ z => nomatch z), e _ _ h5 (fun _ z => nomatch z), e _ _ h6 (fun _ z => nomatch z), e _ _ h7 (fun _ z => nomatch z), h8, fun p hp => et _ _ (h9 p hp), h10.row et, h11.sgn et, h12⟩
theorem same_lsts {α : Type} {f g : Hp → Addr → α → Prop} {n : Nat} {ts tt : Addr} {rs : List α} (h1 : RowsAt f H ts rs) (h2 : RowsAt g H tt rs) (hf : ∀ p q r, r ∈ rs → f H p r → g H q r → SameN n H (.ref p) (.ref q)) (hl : rs.length ≤ 10000) : SameN (n + 1) H (.ref ts) (.ref tt) := by
  obtain ⟨as, a1, a2, a3⟩ := h1
  obtain ⟨bs, b1, b2, b3⟩ := h2
  refine .inr ⟨ts, tt, _, _, rfl, rfl, by rw [List.length_map, List.length_map, a2, b2], by rw [List.length_map]; omega, .inl ⟨a1, b1⟩, fun i u v hu hv => ?_⟩
  obtain ⟨r, er⟩ : ∃ r, rs[i]? = some r := ⟨_, List.getElem?_eq_getElem (by have := (List.getElem?_eq_some_iff.mp hu).1; rw [List.length_map] at this; omega)⟩
  obtain ⟨p, rfl, hp⟩ := ads_at a3 hu er
  obtain ⟨q, rfl, hq⟩ := ads_at b3 hv er
  exact hf p q r (List.mem_of_getElem? er) hp hq
theorem same_sgnL {B : Hp} {p q : Addr} {g : Sgn} {n : Nat} (hl : g.2.1.length ≤ 10000) (h1 : FrSgn B H p g) (h2 : SgnAt H q g) : SameN (n + 2) H (.ref p) (.ref q) := by
  obtain ⟨_, p', _, a1, a2⟩ := h1
  obtain ⟨q', b1, b2⟩ := h2
  refine .inr ⟨p, q, [.str g.1, .ref p', .str g.2.2], [.str g.1, .ref q', .str g.2.2], rfl, rfl, rfl, by simp, .inl ⟨a1, b1⟩, fun i u v hu hv => ?_⟩
  match i with
  | 0 =>
    obtain rfl : V.str g.1 = u := by simpa using hu
    obtain rfl : V.str g.1 = v := by simpa using hv
    exact SameN.flat rfl
  | 1 =>
    obtain rfl : V.ref p' = u := by simpa using hu
    obtain rfl : V.ref q' = v := by simpa using hv
    exact same_strs (flat_strs g.2.1) (by rw [List.length_map]; exact hl) (.inl ⟨a2, b2⟩)
  | 2 =>
    obtain rfl : V.str g.2.2 = u := by simpa using hu
    obtain rfl : V.str g.2.2 = v := by simpa using hv
    exact SameN.flat rfl
  | i + 3 => simp at hu
theorem same_two {p l b c b' c' : Addr} {n : Nat} (h1 : H p = some (.lst [.ref b', .ref c'])) (h2 : H l = some (.lst [.ref b, .ref c])) (s1 : SameN n H (.ref b') (.ref b)) (s2 : SameN n H (.ref c') (.ref c)) : SameN (n + 1) H (.ref p) (.ref l) := by
  refine .inr ⟨p, l, [.ref b', .ref c'], [.ref b, .ref c], rfl, rfl, rfl, by simp, .inl ⟨h1, h2⟩, fun i u v hu hv => ?_⟩
  match i with
  | 0 =>
    obtain rfl : V.ref b' = u := by simpa using hu
    obtain rfl : V.ref b = v := by simpa using hv
    exact s1
  | 1 =>
    obtain rfl : V.ref c' = u := by simpa using hu
    obtain rfl : V.ref c = v := by simpa using hv
    exact s2
  | i + 2 => simp at hu
theorem q_clear {D : Ends} {tz : TS} {ta : TE} {l : Addr} {xs : List V} (ha : Ev ta σ H (.ref l)) (hl : H l = some (.lst xs)) (k : ∀ H1, Ex H H1 → tz D σ (L2.upd H1 l (.lst []))) : tSeq (tDrop (tBM0 K "list" rClear ta)) tz D σ H :=
  ha H (Ex.refl H) _ fun H1 e1 => ⟨.inl ⟨rfl, xs, sq_of (e1 _ _ hl)⟩, l, xs, rfl, rfl, e1 _ _ hl, k H1 e1⟩
/-- the copies while they are changed -/
def Gq (F : Addr → Prop) (pg c' : Addr) (gds : List Addr) (m : Nat) (H : Hp) : Prop := ∀ p ∈ gds, ∃ x z q zs, H p = some (.lst [x, .ref q, z]) ∧ F q ∧ q ≠ pg ∧ q ≠ c' ∧ q ∉ gds ∧ H q = some (.lst zs) ∧ zs.length ≤ m
structure RP1 (T : Hp) (F : Addr → Prop) (pg b' c' : Addr) (ads gds : List Addr) (H : Hp) : Prop where
  ex : Ex T H
  hg : H pg = some (.lst [.ref b', .ref c'])
  b : H b' = some (.lst (ads.map V.ref))
  c : H c' = some (.lst (gds.map V.ref))
  row : ∀ p ∈ ads, ∃ x y, H p = some (.lst [x, y])
  gq : Gq F pg c' gds 5000 H
structure RP2 (T : Hp) (F : Addr → Prop) (pg b' c' : Addr) (gds : List Addr) (m : Nat) (H : Hp) : Prop where
  ex : Ex T H
  hg : H pg = some (.lst [.ref b', .ref c'])
  b : ∃ zs, H b' = some (.lst zs) ∧ zs.length ≤ m
  c : H c' = some (.lst (gds.map V.ref))
  gq : Gq F pg c' gds m H
theorem Gq.mono {F : Addr → Prop} {pg c' : Addr} {gds : List Addr} {m : Nat} {H' : Hp} (h : Gq F pg c' gds m H) (e : Ex H H') : Gq F pg c' gds m H' := fun p hp => by
  obtain ⟨x, z, q, zs, h1, h2, h3, h4, h5, h6, h7⟩ := h p hp
  exact ⟨x, z, q, zs, e _ _ h1, h2, h3, h4, h5, e _ _ h6, h7⟩
theorem RP1.mono {T : Hp} {F : Addr → Prop} {pg b' c' : Addr} {ads gds : List Addr} {H' : Hp} (h : RP1 T F pg b' c' ads gds H) (e : Ex H H') : RP1 T F pg b' c' ads gds H' :=
  ⟨h.ex.trans e, e _ _ h.hg, e _ _ h.b, e _ _ h.c, fun p hp => by
    obtain ⟨x, y, z⟩ := h.row p hp
    exact ⟨x, y, e _ _ z⟩, h.gq.mono e⟩
theorem RP2.mono {T : Hp} {F : Addr → Prop} {pg b' c' : Addr} {gds : List Addr} {m : Nat} {H' : Hp} (h : RP2 T F pg b' c' gds m H) (e : Ex H H') : RP2 T F pg b' c' gds m H' :=
  ⟨h.ex.trans e, e _ _ h.hg, by
    obtain ⟨zs, z1, z2⟩ := h.b
    exact ⟨zs, e _ _ z1, z2⟩, e _ _ h.c, h.gq.mono e⟩
theorem RP1.step {T : Hp} {F : Addr → Prop} {pg b' c' p : Addr} {ads gds : List Addr} {v1 v2 : V} (h : RP1 T F pg b' c' ads gds H) (tp : T p = none) (n1 : pg ≠ p) (n2 : b' ≠ p) (n3 : c' ≠ p) (n4 : p ∉ gds) : RP1 T F pg b' c' ads gds (L2.upd H p (.lst [v1, v2])) := by
  refine ⟨h.ex.mut tp, by rw [upd_ne n1]; exact h.hg, by rw [upd_ne n2]; exact h.b, by rw [upd_ne n3]; exact h.c, fun p2 hp2 => ?_, fun p2 hp2 => ?_⟩
  · by_cases z : p2 = p
    · rw [z, upd_same]
      exact ⟨_, _, rfl⟩
    · rw [upd_ne z]
      exact h.row p2 hp2
  · obtain ⟨x, z, q, zs, h1, h2, h3, h4, h5, h6, h7⟩ := h.gq p2 hp2
    have n5 : p2 ≠ p := fun z => n4 (z ▸ hp2)
    by_cases w : q = p
    · exact ⟨x, z, q, [v1, v2], by rw [upd_ne n5]; exact h1, h2, h3, h4, h5, by rw [w]; exact upd_same, by simp⟩
    · exact ⟨x, z, q, zs, by rw [upd_ne n5]; exact h1, h2, h3, h4, h5, by rw [upd_ne w]; exact h6, h7⟩
theorem RP2.row {T : Hp} {F : Addr → Prop} {pg b' c' p q0 : Addr} {gds : List Addr} {m : Nat} {v1 v2 x0 z0 : V} (h : RP2 T F pg b' c' gds m H) (hp : p ∈ gds) (h0 : H p = some (.lst [x0, .ref q0, z0])) (tp : T p = none) (n1 : pg ≠ p) (n2 : b' ≠ p) (n3 : c' ≠ p) : RP2 T F pg b' c' gds m (L2.upd H p (.lst [v1, .ref q0, v2])) := by
  refine ⟨h.ex.mut tp, by rw [upd_ne n1]; exact h.hg, by rw [upd_ne n2]; exact h.b, by rw [upd_ne n3]; exact h.c, fun p2 hp2 => ?_⟩
  obtain ⟨x, z, q, zs, h1, h2, h3, h4, h5, h6, h7⟩ := h.gq p2 hp2
  have nq : q ≠ p := fun w => h5 (w ▸ hp)
  by_cases w : p2 = p
  · rw [w, h0] at h1
    have e : q0 = q := by
      simp only [Option.some.injEq, HO.lst.injEq, List.cons.injEq, V.ref.injEq] at h1
      exact h1.2.1
    exact ⟨v1, v2, q, zs, by rw [w, upd_same, e], h2, h3, h4, h5, by rw [upd_ne nq]; exact h6, h7⟩
  · exact ⟨x, z, q, zs, by rw [upd_ne w]; exact h1, h2, h3, h4, h5, by rw [upd_ne nq]; exact h6, h7⟩
theorem RP2.app {T : Hp} {F : Addr → Prop} {pg b' c' q0 : Addr} {gds : List Addr} {m : Nat} {zs0 : List V} {v : V} (h : RP2 T F pg b' c' gds m H) (h0 : zs0.length ≤ m) (tp : T q0 = none) (n1 : q0 ≠ pg) (n3 : q0 ≠ c') (n4 : q0 ∉ gds) : RP2 T F pg b' c' gds (m + 1) (L2.upd H q0 (.lst (zs0 ++ [v]))) := by
  have hl : (zs0 ++ [v]).length ≤ m + 1 := by
    rw [List.length_append, List.length_singleton]
    omega
  refine ⟨h.ex.mut tp, by rw [upd_ne (Ne.symm n1)]; exact h.hg, ?_, by rw [upd_ne (Ne.symm n3)]; exact h.c, fun p2 hp2 => ?_⟩
  · by_cases w : b' = q0
    · exact ⟨_, by rw [w]; exact upd_same, hl⟩
    · obtain ⟨zs, z1, z2⟩ := h.b
      exact ⟨zs, by rw [upd_ne w]; exact z1, by omega⟩
  · obtain ⟨x, z, q, zs, h1, h2, h3, h4, h5, h6, h7⟩ := h.gq p2 hp2
    have n5 : p2 ≠ q0 := fun w => n4 (w ▸ hp2)
    by_cases w : q = q0
    · exact ⟨x, z, q, _, by rw [upd_ne n5]; exact h1, h2, h3, h4, h5, by rw [w]; exact upd_same, hl⟩
    · exact ⟨x, z, q, zs, by rw [upd_ne n5]; exact h1, h2, h3, h4, h5, by rw [upd_ne w]; exact h6, by omega⟩
theorem ne_c {p q : Addr} {xs ys : List V} (h1 : H p = some (.lst xs)) (h2 : H q = some (.lst ys)) (h : xs ≠ ys) : p ≠ q := fun z => by
  rw [z, h2] at h1
  exact h (HO.lst.inj (Option.some.inj h1)).symm
theorem ne_refs {x : Str} {l : List V} {as : List Addr} : (V.str x :: l) ≠ as.map V.ref := fun z => by
  cases as with
  | nil => cases z
  | cons a as => simp at z
theorem ne_refs2 {ss : List Str} {as : List Addr} (h : as ≠ []) : ss.map V.str ≠ as.map V.ref := fun z => by
  cases as with
  | nil => exact h rfl
  | cons a as =>
    cases ss with
    | nil => simp at z
    | cons s ss => simp at z
theorem scHd : FnScope ["sorts", "signs", "due", "row", "given", "told"] ["sorts", "signs"] (defScope (topS 43)) := ⟨rfl, rfl, rfl, by decide +kernel, rfl, by decide +kernel, by decide +kernel⟩
theorem ok_handed {f fs ff fm : Addr} {fd fds fdf fdm : FuncData} (D : DefAt K mg 43 "_law_handed" ["sorts", "signs"] f fd) (S : SigC K C) (IK : InsK K C) (SM : GenAt P w K mg base 5 "_law_same" ["told", "due"] (spSame 4) fs fds) (FF : GenAt P w K mg base 3 "_law_first_fault" ["sorts", "signs"] spFf ff fdf) (MD : GenAt P w K mg base 5 "_law_made" ["sorts", "signs"] (spMade ec C) fm fdm) (N : Nm mg) (M : NmS mg) :
    FnOk P w K mg base CX0 6 f fd ["sorts", "signs"] (spHanded C) := by
  refine D.F.ok scHd (fun vs H Q E h => ?_) (fun cdv A outer s H vs Q E hr h => ?_)
  · obtain ⟨b, c, sorts, signs, rfl, _⟩ := h
    rfl
  · obtain ⟨b, c, sorts, signs, rfl, hb, hc, hz, k1, k2⟩ := h
    refine ⟨_, (pss_cons (ps_asg (pe_call FF.F (hr.mono (by decide)) (by rfl) FF.g FF.kp FF.b .nil pass0 (pa_cons (pv 0) (pa_cons (pv 1) pa_nil))) (pg_name (i := 2) scHd.nd rfl (.inl rfl))) (pss_cons (ps_asg (pe_lst (pa_cons (pe_lc (own := [("row", 3)]) (g := gName 3) rfl scHd.nd (pi_list (pv 0)) (blkOk_by (own := [("row", 3)]) (N := ["sorts", "signs", "due", "row", "given", "told"]) (sc := defScope (topS 43)) (by decide +kernel)) (fun _ _ _ _ _ => pg_name (i := 3) scHd.nd rfl (.inl rfl) (hf := .inr rfl)) (fun _ _ _ _ _ => pts_nil) (fun _ _ _ _ _ => (pe_callTy (r := rListS K) call_list_of (by rfl) M.list (by decide +kernel) (pa_cons (pv 3) pa_nil)))) (pa_cons (pe_lc (own := [("row", 3)]) (g := gName 3) rfl scHd.nd (pi_list (pv 1)) (blkOk_by (own := [("row", 3)]) (N := ["sorts", "signs", "due", "row", "given", "told"]) (sc := defScope (topS 43)) (by decide +kernel)) (fun _ _ _ _ _ => pg_name (i := 3) scHd.nd rfl (.inl rfl) (hf := .inr rfl)) (fun _ _ _ _ _ => pts_nil) (fun _ _ _ _ _ => (pe_lst (pa_cons (pe_ix (r := rIxL K) ix_list (pv 3) pe_int (fun _ _ => rfl)) (pa_cons (pe_callTy (r := rListS K) call_list_of (by rfl) M.list (by decide +kernel) (pa_cons (pe_ix (r := rIxL K) ix_list (pv 3) pe_int (fun _ _ => rfl)) pa_nil)) (pa_cons (pe_ix (r := rIxL K) ix_list (pv 3) pe_int (fun _ _ => rfl)) pa_nil)))))) pa_nil))) (pg_name (i := 4) scHd.nd rfl (.inl rfl))) (pss_cons (ps_asg (pe_call MD.F (hr.mono (by decide)) (by rfl) MD.g MD.kp MD.b .nil pass0 (pa_cons (pe_ix (r := rIxL K) ix_list (pv 4) pe_int (fun _ _ => rfl)) (pa_cons (pe_ix (r := rIxL K) ix_list (pv 4) pe_int (fun _ _ => rfl)) pa_nil))) (pg_name (i := 5) scHd.nd rfl (.inl rfl))) (pss_cons (ps_if (pt_not (pt_val (pe_call SM.F (hr.mono (by decide)) (by rfl) SM.g SM.kp SM.b .nil pass0 (pa_cons (pv 4) (pa_cons (pe_lst (pa_cons (pv 0) (pa_cons (pv 1) pa_nil))) pa_nil))))) (pss_one (ps_ret (pe_lst (pa_cons pe_bl (pa_cons pe_non pa_nil))))) pss_nil) (pss_cons (ps_for PassesOwn.never rfl (pi_list (pe_ix (r := rIxL K) ix_list (pv 4) pe_int (fun _ _ => rfl))) (pg_name (i := 3) scHd.nd rfl (.inl rfl)) (pss_cons (ps_asg pe_str (pg_sub (pv 3) pe_int set_list)) (pss_one (ps_asg pe_str (pg_sub (pv 3) pe_int set_list))))) (pss_cons (ps_for PassesOwn.never rfl (pi_list (pe_ix (r := rIxL K) ix_list (pv 4) pe_int (fun _ _ => rfl))) (pg_name (i := 3) scHd.nd rfl (.inl rfl)) (pss_cons (ps_asg pe_str (pg_sub (pv 3) pe_int set_list)) (pss_cons (ps_expr (pe_bm PySem.F.plainAttrs_list PySem.F.slot_list_append PySem.F.type_list_append mt_append (pe_ix (r := rIxL K) ix_list (pv 3) pe_int (fun _ _ => rfl)) (pa_cons pe_str pa_nil))) (pss_one (ps_asg pe_str (pg_sub (pv 3) pe_int set_list)))))) (pss_cons (ps_expr (pe_bm PySem.F.plainAttrs_list PySem.F.slot_list_append PySem.F.type_list_append mt_append (pe_ix (r := rIxL K) ix_list (pv 4) pe_int (fun _ _ => rfl)) (pa_cons (pe_lst (pa_cons pe_str (pa_cons pe_str pa_nil))) pa_nil))) (pss_cons (ps_expr (pe_bm0 PySem.F.plainAttrs_list PySem.F.slot_list_clear PySem.F.type_list_clear mt_clear (pe_ix (r := rIxL K) ix_list (pv 4) pe_int (fun _ _ => rfl)))) (pss_cons (ps_if (pt_cmpR op_notNon (pv 2) pe_non (nomark _)) (pss_one (ps_ret (pe_lst (pa_cons (pe_call SM.F (hr.mono (by decide)) (by rfl) SM.g SM.kp SM.b .nil pass0 (pa_cons (pv 5) (pa_cons (pe_lst (pa_cons (pv 2) pa_nil)) pa_nil))) (pa_cons pe_non pa_nil))))) pss_nil) (pss_one (ps_ret (pe_lst (pa_cons (pe_not (pe_callB (r := rIsi K) call_isi (by rfl) M.isi (by decide +kernel) (pa_cons (pv 5) (pa_cons (pe_bltn (v := .ty "list") (by rfl) M.list (by decide +kernel) rfl) pa_nil)))) (pa_cons (pv 5) pa_nil)))))))))))))), ?_⟩
    refine q_asgN (en_ff hb hc hz (ev_var rfl) (ev_var rfl)) fun dv G1 H1 n1 r1 => ?_
    have e1 := n1.kp
    have r1 := r1.mono n1.st
    have hb1 := rowsAt_mono hb e1
    have hc1 := sgnsAt_mono hc e1
    have hgiven : EvN (tLst (tCons (tLc (iList K (tVar 0)) (gName 3) tYes (tCB (rListS K) (tCons (tVar 3) tNil)) [3]) (tCons (tLc (iList K (tVar 1)) (gName 3) tYes (tLst (tCons (tOp (rIxL K) (tVar 3) (tC (.int 0))) (tCons (tCB (rListS K) (tCons (tOp (rIxL K) (tVar 3) (tC (.int 1))) tNil)) (tCons (tOp (rIxL K) (tVar 3) (tC (.int 2))) tNil)))) [3]) tNil))) [some (.ref b), some (.ref c), some dv, none, none, none] H1 (GivenR H1 sorts signs) :=
      (en_lstF (Rs := fun us G => ∃ b' c', us = [.ref b', .ref c'] ∧ H1 b' = none ∧ RowsAt (FrRow H1) G b' sorts ∧ H1 c' = none ∧ RowsAt (FrSgn H1) G c' signs) (fun us G G' h e => by
          obtain ⟨b', c', z1, z2, z3, z4, z5⟩ := h
          exact ⟨b', c', z1, z2, z3.mono (fun p r h => frRow_mono _ _ _ _ _ e h) e, z4, z5.mono (fun p r h => frSgn_mono _ _ _ _ _ e h) e⟩)
        (ena_cons (Rr := fun _ us G => ∃ c', us = [.ref c'] ∧ H1 c' = none ∧ RowsAt (FrSgn H1) G c' signs) (en_copyS hb1 (ev_var rfl) (by have := hz.1; omega) (fun _ => rfl) (fun _ => rfl)) (fun v G e r => (ena_one (en_copyG (sgnsAt_mono hc1 e) (ev_var rfl) (by have := hz.2.1; omega) (fun _ => rfl) (fun _ => rfl))).imp fun us G' e' h => by
            obtain ⟨v, rfl, h⟩ := h
            obtain ⟨c', rfl, z1, z2⟩ := rows_ofL rfl h
            refine ⟨c', rfl, fresh_back e z1, ?_⟩
            obtain ⟨gds, g1, g2, g3⟩ := z2
            refine ⟨gds, g1, g2, fun i p r hp hr => ?_⟩
            obtain ⟨y0, q, y1, y2⟩ := g3 i p r hp hr
            exact ⟨fresh_back e y0, q, fresh_back e y1, y2⟩) fun v us G G' r e r' => by
          obtain ⟨b', rfl, z1, z2⟩ := rows_ofL rfl r
          obtain ⟨c', rfl, z3, z4⟩ := r'
          exact ⟨b', c', rfl, z1, z2.mono (fun p r h => frRow_mono _ _ _ _ _ e h) e, z3, z4⟩) fun us G h => by
          obtain ⟨b', c', rfl, _⟩ := h
          simp).imp fun v G _ h => by
        obtain ⟨pg, us, rfl, z1, z2, b', c', rfl, z3⟩ := h
        exact ⟨pg, b', c', rfl, z1, z2, z3⟩
    refine q_asgN hgiven fun gv G2 H2 n2 r2 => ?_
    obtain ⟨pg, b', c', rfl, fpg, hpg, fb', hb', fc', hc'⟩ := r2
    have st2 := n2.st
    have hb2 : RowsAt RowAt H2 b' sorts := hb'.map (fun p r h => st2 _ _ h.2) st2
    have hc2 : RowsAt SgnAt H2 c' signs := hc'.map (fun p r h => by
      obtain ⟨_, q, _, z1, z2⟩ := h
      exact ⟨q, st2 _ _ z1, st2 _ _ z2⟩) st2
    have g0 : ∀ {G : Hp} {σ : L2.St}, Ex H2 G → σ[4]? = some (some (.ref pg)) → Ev (tOp (rIxL K) (tVar 4) (tC (.int 0))) σ G (.ref b') := fun e h => ev_op (ev_var h) ev_c (rv_ixL (sq_of (e _ _ (st2 _ _ hpg))) (atI_nat (j := 0) rfl))
    have g1 : ∀ {G : Hp} {σ : L2.St}, Ex H2 G → σ[4]? = some (some (.ref pg)) → Ev (tOp (rIxL K) (tVar 4) (tC (.int 1))) σ G (.ref c') := fun e h => ev_op (ev_var h) ev_c (rv_ixL (sq_of (e _ _ (st2 _ _ hpg))) (atI_nat (j := 1) rfl))
    refine q_asgMade (ea_cons (g0 (Ex.refl _) rfl) (ea_cons (g1 (Ex.refl _) rfl) ea_nil)) hb2 hc2 hz fun tv H3 e3 hT3 => ?_
    have e12 : Ex H H2 := e1.trans n2.kp
    have same1 : Ev (tCall (spSame 4) [] E0 (tCons (tVar 4) (tCons (tLst (tCons (tVar 0) (tCons (tVar 1) tNil))) tNil))) [some (.ref b), some (.ref c), some dv, none, some (.ref pg), some tv] H3 (.bl true) :=
      ev_same (R1 := fun u _ => u = .ref pg) (R2 := fun v G => IsL (fun ys _ => ys = [.ref b, .ref c]) v G ∧ Ex H3 G) (en_ev (ev_var rfl)) (fun G e => (en_el (el_lst (ea_cons (ev_var rfl) (ea_cons (ev_var rfl) ea_nil)) (by simp))).imp fun v G' e' h => ⟨h, e.trans e'⟩) fun x y G G' r e r' => by
        obtain ⟨⟨l, ys, rfl, hl, rfl⟩, e3'⟩ := r'
        have eG : Ex G2 G' := (st2.trans e3).trans e3'
        rw [r]
        refine same_two (n := 3) (eG _ _ hpg) hl (same_lsts (n := 2) (hb'.mono (fun p r h => frRow_mono _ _ _ _ _ eG h) eG) (rowsAt_mono hb ((e12.trans e3).trans e3')) (fun p q r _ h1 h2 => same_strs (xs := [.str r.1, .str r.2]) rfl (by simp) (.inl ⟨h1.2, h2⟩)) (by have := hz.1; omega)) (same_lsts (n := 2) (hc'.mono (fun p r h => frSgn_mono _ _ _ _ _ eG h) eG) (sgnsAt_mono hc ((e12.trans e3).trans e3')) (fun p q r hr h1 h2 => same_sgnL (by have := (hz.2.2.2 r hr).2; omega) h1 h2) (by have := hz.2.1; omega))
    refine q_when (b := false) (et_is (et_not (et_B same1)) rfl) (fun z => by cases z) (fun _ H4 e4 => ?_)
    obtain ⟨ads, hbl', hbn', hrow'⟩ := id hb'
    obtain ⟨gds, hcl', hcn', hsgn'⟩ := id hc'
    have e24 : Ex G2 H4 := (st2.trans e3).trans e4
    -- what may be changed
    obtain ⟨F, hF⟩ : ∃ F : Addr → Prop, ∀ b, F b ↔ (b = pg ∨ b = b' ∨ b = c' ∨ b ∈ ads ∨ b ∈ gds ∨ ∃ p ∈ gds, ∃ x z, G2 p = some (.lst [x, .ref b, z])) := ⟨_, fun _ => Iff.rfl⟩
    have inA : ∀ p ∈ ads, H1 p = none ∧ ∃ x y : Str, G2 p = some (.lst [.str x, .str y]) := fun p hp => by
      obtain ⟨i, hi⟩ := List.mem_iff_getElem?.mp hp
      obtain ⟨r, er⟩ : ∃ r, sorts[i]? = some r := ⟨_, List.getElem?_eq_getElem (by have := (List.getElem?_eq_some_iff.mp hi).1; omega)⟩
      have := hrow' i p r hi er
      exact ⟨this.1, _, _, this.2⟩
    have inG : ∀ p ∈ gds, H1 p = none ∧ ∃ (x z : Str) (q : Addr) (ss : List Str), G2 p = some (.lst [.str x, .ref q, .str z]) ∧ G2 q = some (.lst (ss.map V.str)) ∧ ss.length ≤ 1000 ∧ H1 q = none := fun p hp => by
      obtain ⟨i, hi⟩ := List.mem_iff_getElem?.mp hp
      obtain ⟨g, er⟩ : ∃ r, signs[i]? = some r := ⟨_, List.getElem?_eq_getElem (by have := (List.getElem?_eq_some_iff.mp hi).1; omega)⟩
      obtain ⟨z0, q, z1, z2, z3⟩ := hsgn' i p g hi er
      exact ⟨z0, _, _, q, _, z2, z3, (hz.2.2.2 g (List.mem_of_getElem? er)).2, z1⟩
    have Fl : ∀ b, F b → H1 b = none ∧ ∃ xs, G2 b = some (.lst xs) := fun b hb => by
      rcases (hF b).mp hb with rfl | rfl | rfl | h | h | ⟨p, hp, x, z, h⟩
      · exact ⟨fpg, _, hpg⟩
      · exact ⟨fb', _, hbl'⟩
      · exact ⟨fc', _, hcl'⟩
      · obtain ⟨z0, x, y, z1⟩ := inA b h
        exact ⟨z0, _, z1⟩
      · obtain ⟨z0, x, z, q, ss, z1, _⟩ := inG b h
        exact ⟨z0, _, z1⟩
      · obtain ⟨z0, x', z', q, ss, z1, z2, z3, z4⟩ := inG p hp
        rw [h] at z1
        simp only [Option.some.injEq, HO.lst.injEq, List.cons.injEq, V.ref.injEq] at z1
        obtain ⟨_, rfl, _⟩ := z1
        exact ⟨z4, _, z2⟩
    obtain ⟨T, hTd⟩ : ∃ T, T = hideP F H4 := ⟨_, rfl⟩
    have T4 : Ex T H4 := hTd ▸ hideP_ex
    have TF : ∀ b, F b → T b = none := fun b h => by rw [hTd]; exact hideP_at h
    have T1 : Ex H1 T := fun b o hb => by
      have nf : ¬ F b := fun h => by rw [(Fl b h).1] at hb; cases hb
      rw [hTd, hideP_ne nf]
      exact e4 _ _ (e3 _ _ (n2.kp _ _ hb))
    have Tn : ∀ p o, H4 p = some o → (∀ xs, o ≠ .lst xs) → T p = some o := fun p o hp ho => by
      have nf : ¬ F p := fun h => by
        obtain ⟨_, xs, z⟩ := Fl p h
        rw [e24 _ _ z] at hp
        exact ho _ (Option.some.inj hp).symm
      rw [hTd, hideP_ne nf]
      exact hp
    have hT : ToldOk C H sorts signs tv T := ⟨fun k s hf => by
      obtain ⟨p, q, rfl, z1, z2, z3⟩ := hT3.1 k s hf
      refine ⟨p, q, rfl, fresh_back e12 z1, ?_, Tn _ _ (e4 _ _ z3) (fun _ z => nomatch z)⟩
      have nf : ¬ F p := fun h => by
        obtain ⟨_, xs, z⟩ := Fl p h
        rw [st2 _ _ z] at z1
        cases z1
      rw [hTd, hideP_ne nf]
      exact e4 _ _ z2, fun hf => by
      obtain ⟨a, rfl, z1, z2⟩ := hT3.2 hf
      exact ⟨a, rfl, fresh_back e12 z1, (z2.mono e4).nl Tn⟩⟩
    have HT : Ex H T := e1.trans T1
    have dT : FfR (firstFault sorts signs) dv T := r1.mono T1
    have sA : ∀ p ∈ ads, T p = none ∧ pg ≠ p ∧ b' ≠ p ∧ c' ≠ p ∧ p ∉ gds := fun p hp => by
      obtain ⟨_, x, y, z⟩ := inA p hp
      refine ⟨TF p ((hF p).mpr (.inr (.inr (.inr (.inl hp))))), Ne.symm (ne_c z hpg (by simp)), Ne.symm (ne_c z hbl' ne_refs), Ne.symm (ne_c z hcl' ne_refs), fun hg => ?_⟩
      obtain ⟨_, x', z', q, ss, w, _⟩ := inG p hg
      rw [z] at w
      simp at w
    have sG : ∀ p ∈ gds, T p = none ∧ pg ≠ p ∧ b' ≠ p ∧ c' ≠ p := fun p hp => by
      obtain ⟨_, x', z', q, ss, w, _⟩ := inG p hp
      exact ⟨TF p ((hF p).mpr (.inr (.inr (.inr (.inr (.inl hp)))))), Ne.symm (ne_c w hpg (by simp)), Ne.symm (ne_c w hbl' ne_refs), Ne.symm (ne_c w hcl' ne_refs)⟩
    have rp4 : RP1 T F pg b' c' ads gds H4 := ⟨T4, e24 _ _ hpg, e24 _ _ hbl', e24 _ _ hcl', fun p hp => by
      obtain ⟨_, x, y, z⟩ := inA p hp
      exact ⟨_, _, e24 _ _ z⟩, fun p hp => by
      obtain ⟨_, x', z', q, ss, w, w2, w3, w4⟩ := inG p hp
      refine ⟨_, _, q, _, e24 _ _ w, (hF q).mpr (.inr (.inr (.inr (.inr (.inr ⟨p, hp, _, _, w⟩))))), ne_c w2 hpg (ne_refs2 (as := [b', c']) (by simp)), ne_c w2 hcl' (ne_refs2 (fun z => by rw [z] at hp; cases hp)), fun hq => ?_, e24 _ _ w2, by rw [List.length_map]; omega⟩
      obtain ⟨_, x'', z'', q', ss', w', _⟩ := inG q hq
      rw [w2] at w'
      simp only [Option.some.injEq, HO.lst.injEq] at w'
      match ss, w' with
      | [], w' => simp at w'
      | [_], w' => simp at w'
      | _ :: _ :: _, w' => simp at w'⟩
    refine q_forL (g := gName 3) (a := b') (xs := ads.map V.ref) (ev_op (ev_var rfl) ev_c (rv_ixL (sq_of rp4.hg) (atI_nat (j := 0) rfl))) (sq_of rp4.b) (fun i σ' H' => (∃ u3, σ' = [some (.ref b), some (.ref c), some dv, u3, some (.ref pg), some tv]) ∧ RP1 T F pg b' c' ads gds H')
      (fun H5 e5 => ⟨⟨_, rfl⟩, rp4.mono e5⟩) (fun i σ' H' _ p => sq_of p.2.b) (fun i v σ' H5 hv p => ?_) (fun σ' H5 p => ?_)
    · obtain ⟨⟨u3, rfl⟩, rp⟩ := p
      rw [List.getElem?_map] at hv
      cases ep : ads[i]? with
      | none => rw [ep] at hv; cases hv
      | some p =>
        rw [ep] at hv
        obtain rfl : V.ref p = v := Option.some.inj hv
        have hp := List.mem_of_getElem? ep
        obtain ⟨t1, t2, t3, t4, t5⟩ := sA p hp
        obtain ⟨x, y, hxy⟩ := rp.row p hp
        refine q_setL (l := p) (xs := [x, y]) (j := 0) hxy ev_c (ev_var rfl) ev_c (by simp) fun H6 e6 => ?_
        have rp6 : RP1 T F pg b' c' ads gds (L2.upd H6 p (.lst ([x, y].set 0 (.str "gone")))) := (rp.mono e6).step t1 t2 t3 t4 t5
        refine s_setL (l := p) (xs := [.str "gone", y]) (j := 1) upd_same ev_c (ev_var rfl) ev_c (by simp) fun H7 e7 => ?_
        exact ⟨⟨_, rfl⟩, (rp6.mono e7).step t1 t2 t3 t4 t5⟩
    · obtain ⟨⟨u3, rfl⟩, rp⟩ := p
      have rq : RP2 T F pg b' c' gds 5000 H5 := ⟨rp.ex, rp.hg, ⟨_, rp.b, by rw [List.length_map, hbn']; have := hz.1; omega⟩, rp.c, rp.gq⟩
      refine q_forL (g := gName 3) (a := c') (xs := gds.map V.ref) (ev_op (ev_var rfl) ev_c (rv_ixL (sq_of rq.hg) (atI_nat (j := 1) rfl))) (sq_of rq.c) (fun i σ' H' => (∃ u3, σ' = [some (.ref b), some (.ref c), some dv, u3, some (.ref pg), some tv]) ∧ RP2 T F pg b' c' gds (5000 + i) H')
        (fun H6 e6 => ⟨⟨_, rfl⟩, rq.mono e6⟩) (fun i σ' H' _ p => sq_of p.2.c) (fun i v σ' H6 hv p => ?_) (fun σ' H6 p => ?_)
      · obtain ⟨⟨u3, rfl⟩, rp⟩ := p
        have hil : i < gds.length := by have := (List.getElem?_eq_some_iff.mp hv).1; rw [List.length_map] at this; exact this
        rw [List.getElem?_map] at hv
        cases ep : gds[i]? with
        | none => rw [ep] at hv; cases hv
        | some p =>
          rw [ep] at hv
          obtain rfl : V.ref p = v := Option.some.inj hv
          have hp := List.mem_of_getElem? ep
          obtain ⟨t1, t2, t3, t4⟩ := sG p hp
          obtain ⟨x, z, q, zs, h1, h2, h3, h4, h5, h6, h7⟩ := rp.gq p hp
          refine q_setL (l := p) (xs := [x, .ref q, z]) (j := 0) h1 ev_c (ev_var rfl) ev_c (by simp) fun H7 e7 => ?_
          have rp7 : RP2 T F pg b' c' gds (5000 + i) (L2.upd H7 p (.lst ([x, .ref q, z].set 0 (.str "gone")))) := (rp.mono e7).row hp (e7 _ _ h1) t1 t2 t3 t4
          have hpq : q ≠ p := fun w => h5 (w ▸ hp)
          have hq7 : (L2.upd H7 p (.lst ([x, .ref q, z].set 0 (.str "gone")))) q = some (.lst zs) := by
            rw [upd_ne hpq]
            exact e7 _ _ h6
          have hp7 : (L2.upd H7 p (.lst ([x, .ref q, z].set 0 (.str "gone")))) p = some (.lst [.str "gone", .ref q, z]) := upd_same
          generalize (L2.upd H7 p (.lst ([x, .ref q, z].set 0 (.str "gone")))) = H8 at rp7 hq7 hp7
          have zg := hz.2.1
          refine q_app (l := q) (xs := zs) hq7 (ev_op (ev_var rfl) ev_c (rv_ixL (sq_of hp7) (atI_nat (j := 1) rfl))) ev_c (by omega) fun H9 e9 => ?_
          have rp9 : RP2 T F pg b' c' gds (5000 + i + 1) (L2.upd H9 q (.lst (zs ++ [.str "gone"]))) := (rp7.mono e9).app h7 (TF q h2) h3 h4 h5
          have hp9 : (L2.upd H9 q (.lst (zs ++ [.str "gone"]))) p = some (.lst [.str "gone", .ref q, z]) := by
            rw [upd_ne (Ne.symm hpq)]
            exact e9 _ _ hp7
          refine s_setL (l := p) (xs := [.str "gone", .ref q, z]) (j := 2) hp9 ev_c (ev_var rfl) ev_c (by simp) fun H10 e10 => ?_
          exact ⟨⟨_, rfl⟩, (rp9.mono e10).row hp (e10 _ _ hp9) t1 t2 t3 t4⟩
      · obtain ⟨⟨u3, rfl⟩, rp⟩ := p
        obtain ⟨zs, hzs, hzl⟩ := rp.b
        rw [List.length_map, hcn'] at hzl
        have zg := hz.2.1
        refine q_appL (l := b') (xs := zs) hzs (ev_op (ev_var rfl) ev_c (rv_ixL (sq_of rp.hg) (atI_nat (j := 0) rfl))) (el_lst (ea_cons ev_c (ea_cons ev_c ea_nil)) (by simp)) (by omega) fun pn H7 npn e7 h7 => ?_
        have ne1 : pg ≠ b' := ne_c hpg hbl' (fun z => by
          have hin : b' ∈ ads := by
            have hz0 : (ads.map V.ref)[0]? = some (V.ref b') := by rw [← z]; rfl
            rw [List.getElem?_map] at hz0
            cases ea : ads[0]? with
            | none => rw [ea] at hz0; cases hz0
            | some a =>
              rw [ea] at hz0
              obtain rfl : a = b' := V.ref.inj (Option.some.inj hz0)
              exact List.mem_of_getElem? ea
          obtain ⟨_, x, y, w⟩ := inA b' hin
          rw [hbl'] at w
          exact ne_refs (HO.lst.inj (Option.some.inj w)).symm)
        have Fb : F b' := (hF b').mpr (.inr (.inl rfl))
        have Fc : F c' := (hF c').mpr (.inr (.inr (.inl rfl)))
        have t7 : Ex T (L2.upd H7 b' (.lst (zs ++ [.ref pn]))) := (rp.ex.trans e7).mut (TF b' Fb)
        have hg7 : (L2.upd H7 b' (.lst (zs ++ [.ref pn]))) pg = some (.lst [.ref b', .ref c']) := by
          rw [upd_ne ne1]
          exact e7 _ _ rp.hg
        obtain ⟨xs7, hc7⟩ : ∃ xs, (L2.upd H7 b' (.lst (zs ++ [.ref pn]))) c' = some (.lst xs) := by
          by_cases w : c' = b'
          · rw [w]
            exact ⟨_, upd_same⟩
          · rw [upd_ne w]
            exact ⟨_, e7 _ _ rp.c⟩
        generalize (L2.upd H7 b' (.lst (zs ++ [.ref pn]))) = H8 at t7 hg7 hc7
        refine q_clear (l := c') (xs := xs7) (ev_op (ev_var rfl) ev_c (rv_ixL (sq_of hg7) (atI_nat (j := 1) rfl))) hc7 fun H9 e9 => ?_
        have t9 : Ex T (L2.upd H9 c' (.lst [])) := (t7.trans e9).mut (TF c' Fc)
        generalize (L2.upd H9 c' (.lst [])) = H10 at t9
        cases hff : firstFault sorts signs with
        | none =>
          rw [hff] at dT
          have dv0 : dv = .non := dT
          subst dv0
          obtain ⟨a, rfl, z1, z2⟩ := hT.2 hff
          have hMT := z2.mono t9
          refine q_when (b := false) (et_test (ev_op (ev_var rfl) ev_c rv_notN)) (fun z => by cases z) (fun _ H11 e11 => ?_)
          obtain ⟨pc, ps, pa, pr, sg, hS⟩ := made_sig (hMT.mono e11)
          obtain ⟨dx, fs, hins, _⟩ := hS.no
          have hisi : Ev (tCB (rIsi K) (tCons (tVar 5) (tCons (tC (.ty "list")) tNil))) [some (.ref b), some (.ref c), some .non, u3, some (.ref pg), some (.ref a)] H11 (.bl false) :=
            ev_cb (ea_cons (ev_var rfl) (ea_cons ev_c ea_nil)) fun H12 e12 Q q => ⟨.ref a, .ty "list", .ref C, .type "list", false, rfl, .ty "list", .base (.ins (e12 _ _ hins) S.cl IK.ha IK.hn IK.ht IK.hm), IK.no, q H12 (Ex.refl H12)⟩
          refine s_retL (el_lst (ea_cons (ev_notV hisi) (ea_cons (ev_var rfl) ea_nil)) (by simp)) fun p H12 np12 e12 h12 => ?_
          exact k2 hff p a H12 (fresh_back ((HT.trans t9).trans e11) np12) z1 (((HT.trans t9).trans e11).trans e12) h12 (hMT.mono (e11.trans e12))
        | some f =>
          obtain ⟨kk, ss⟩ := f
          rw [hff] at dT
          obtain ⟨td, ys, rfl, htd, rfl⟩ := dT
          obtain ⟨p, q, rfl, z1, z2, z3⟩ := hT.1 kk ss hff
          refine q_when (b := true) (et_test (ev_op (ev_var rfl) ev_c rv_notN)) (fun _ H11 e11 => ?_) (fun z => by cases z)
          have t11 := t9.trans e11
          have sme : Ev (tCall (spSame 4) [] E0 (tCons (tVar 5) (tCons (tLst (tCons (tVar 2) tNil)) tNil))) [some (.ref b), some (.ref c), some (.ref td), u3, some (.ref pg), some (.ref p)] H11 (.bl true) :=
            ev_same (R1 := fun u _ => u = .ref p) (R2 := fun v G => IsL (fun ys _ => ys = [.ref td]) v G ∧ Ex H11 G) (en_ev (ev_var rfl)) (fun G e => (en_el (el_lst (ea_cons (ev_var rfl) ea_nil) (by simp))).imp fun v G' e' h => ⟨h, e.trans e'⟩) fun x y G G' r e r' => by
              obtain ⟨⟨l, ys, rfl, hl, rfl⟩, e11'⟩ := r'
              rw [r]
              exact ((same_one (t11.trans e11' _ _ z2) (t11.trans e11' _ _ z3) hl (t11.trans e11' _ _ htd)).up).up
          refine s_retL (el_lst (ea_cons sme (ea_cons ev_c ea_nil)) (by simp)) fun p H12 np12 e12 h12 => ?_
          exact k1 (by rw [hff]; simp) p H12 (fresh_back (HT.trans t11) np12) ((HT.trans t11).trans e12) h12
end
end K01
-- KGenF
/-! defs that draw and tell what is new -/
namespace KD
open PySem PySem.Spec PyProof.Rows L2 Evl KEv KSq KNew
def spGenF (A : List V → Hp → Prop) (R : List V → Hp → V → Hp → Prop) : Sp := fun vs H Q _ => ∃ (d : Addr) (rest : List V), vs = .ref d :: rest ∧ Dr H d ∧ A rest (hide H d) ∧ ∀ v B' H', Ex (hide H d) B' → Sd B' d H' → R rest (hide H d) v B' → Q v H'
section
variable {K : PySem.W.Frag} {σ : L2.St} {B H : Hp} {d : Addr} {te td : TE} {ta : TA} {tt : TT} {R R' : V → Hp → Prop} {E : XK} {D : Ends} {tz tu tw : TS} {j : Nat}
theorem eg_callF {A : List V → Hp → Prop} {Rc : List V → Hp → V → Hp → Prop} {Rs : List V → Hp → Prop} (h : EvGA ta σ B d Rs) (ha : ∀ us B1 H1, Ex B B1 → Rs us B1 → Ex B1 H1 → ∃ rest, us = .ref d :: rest ∧ A rest H1) (hr : ∀ rest B1 Bh B2 v, Ex B B1 → Rs (.ref d :: rest) B1 → Ex B1 Bh → Ex Bh B2 → Rc rest Bh v B2 → R v B2) :
    EvG (tCall (spGenF A Rc) [] E ta) σ B d R := fun H s Q q => h H s _ fun us B1 H1 e1 s1 r1 => by
  obtain ⟨rest, eu, hA⟩ := ha us B1 (hide H1 d) e1 r1 s1.below
  subst eu
  exact ⟨d, rest, List.append_nil _, s1.dr, hA, fun v B2 H2 e2 s2 r2 => q v B2 H2 ((e1.trans s1.below).trans e2) s2 (hr rest B1 (hide H1 d) B2 v e1 r1 s1.below e2 r2)⟩
theorem eg_callP {A : List V → Hp → Prop} {Rc : List V → Hp → V → Hp → Prop} {rest : List V} (h : EvA ta σ B (.ref d :: rest)) (ha : ∀ H1, Ex B H1 → A rest H1) : EvG (tCall (spGenF A Rc) [] E ta) σ B d fun v B2 => ∃ Bh, Ex B Bh ∧ Ex Bh B2 ∧ Rc rest Bh v B2 :=
  eg_callF (Rs := fun us B' => us = .ref d :: rest ∧ B' = B) (ega_lift h) (fun us B1 H1 _ h e => ⟨rest, h.1, ha H1 (h.2 ▸ e)⟩) fun rest' B1 Bh B2 v _ h e1 e2 hc => by
    obtain rfl : rest' = rest := (List.cons.inj h.1).2
    exact ⟨Bh, h.2 ▸ e1, e2, hc⟩
/-- f(draws, n), n drawn -/
theorem eg_callF1 {A : List V → Hp → Prop} {Rc : List V → Hp → V → Hp → Prop} {R1 : V → Hp → Prop} (hd : Ev td σ B (.ref d)) (h : EvG te σ B d R1) (ha : ∀ v B1 H1, Ex B B1 → R1 v B1 → Ex B1 H1 → A [v] H1) : EvG (tCall (spGenF A Rc) [] E (tCons td (tCons te tNil))) σ B d fun u B2 => ∃ v B1 Bh, Ex B B1 ∧ R1 v B1 ∧ Ex B1 Bh ∧ Ex Bh B2 ∧ Rc [v] Bh u B2 :=
  eg_callF (Rs := fun us B' => ∃ v, us = [.ref d, v] ∧ R1 v B') (ega_sd (ega_consV hd (ega_one h)) fun us B' _ h => by
      obtain ⟨r, rfl, v, rfl, h⟩ := h
      exact ⟨v, rfl, h⟩) (fun us B1 H1 e1 h e2 => by
      obtain ⟨v, rfl, h⟩ := h
      exact ⟨[v], rfl, ha v B1 H1 e1 h e2⟩) fun rest B1 Bh B2 u e1 h e2 e3 hc => by
      obtain ⟨v, ev, h⟩ := h
      obtain rfl : rest = [v] := (List.cons.inj ev).2
      exact ⟨v, B1, Bh, e1, h, e2, e3, hc⟩
/-- a pure value among what is drawn -/
theorem EvG.pure {v : V} (h : Ev te σ B v) (hr : R v B) : EvG te σ B d R := fun H s Q q => h H s.ex Q fun H2 e2 => q v B H2 (Ex.refl B) (s.mono e2) hr
/-- what is made anew -/
theorem g_asgN {i : Nat} (h : EvN te σ B R) (s : Sd B d H) (k : ∀ v B' H', Ex B B' → Sd B' d H' → R v B' → D.nx (σ.set i (some v)) H') : tAsg te (gName i) D σ H := g_asg (eg_new h) s k
theorem gq_asgN {i : Nat} (h : EvN te σ B R) (s : Sd B d H) (k : ∀ v B' H', Ex B B' → Sd B' d H' → R v B' → tz D (σ.set i (some v)) H') : tSeq (tAsg te (gName i)) tz D σ H := gq_asg (eg_new h) s k
/-- a test that draws nothing -/
theorem gq_when {b : Bool} (h : EvT tt σ B b) (s : Sd B d H) (h1 : b = true → ∀ H1, Sd B d H1 → tu { D with nx := tz D } σ H1) (h2 : b = false → ∀ H1, Sd B d H1 → tz D σ H1) : tSeq (tIfS tt tu tNext) tz D σ H :=
  (h H s.ex) _ fun H1 e1 => by
    cases b with
    | true => exact h1 rfl H1 (s.mono e1)
    | false => exact h2 rfl H1 (s.mono e1)
theorem g_ifP {b : Bool} (h : EvT tt σ B b) (s : Sd B d H) (h1 : b = true → ∀ H1, Sd B d H1 → tu D σ H1) (h2 : b = false → ∀ H1, Sd B d H1 → tw D σ H1) : tIfS tt tu tw D σ H :=
  (h H s.ex) _ fun H1 e1 => by
    cases b with
    | true => exact h1 rfl H1 (s.mono e1)
    | false => exact h2 rfl H1 (s.mono e1)
end
end KD
namespace KD
open PySem PySem.Spec PyProof.Rows L2 Evl KEv KSq KNew
section
variable {K : PySem.W.Frag} {σ : L2.St} {B H : Hp} {d : Addr} {te ta ti : TE} {tr : TA} {R R' : V → Hp → Prop} {D : Ends} {tz : TS} {j : Nat} {vs : List Nat} {g : TG}
/-- a comprehension over range(n), every turn gives something new -/
theorem en_lcRF {n : Nat} (Rl : Nat → V → Hp → Prop) (hm : ∀ i y G G', Rl i y G → Ex G G' → Rl i y G') (h : EvA tr σ H [.int (n : Int)]) (hz : n ≤ 40000)
    (hs : ∀ i G H1, Ex H G → Ex G H1 → i < n → ∀ Q : VK, (∀ y G' H2, Nw G H1 G' H2 → Rl i y G' → Q y H2) → g (.int (i : Int)) (wipe σ vs) H1 fun σ2 H2 => wipe σ2 vs = wipe σ vs ∧ te σ2 H2 Q) :
    EvN (tLc (iRng1 tr) g tYes te vs) σ H (FrL H fun ys G => ys.length = n ∧ ∀ i y, ys[i]? = some y → Rl i y G) := by
  intro H0 e0 Q q
  refine h H0 e0 _ fun H1 e1 => ⟨(n : Int), rfl, by omega, by omega, fun L hD => ?_⟩
  refine lc_range (lo := 0) (n := ((n : Int) - 0).toNat) (fun i H' => ∃ G acc, Nw H H1 G H' ∧ G L = none ∧ H' L = some (.lst acc) ∧ acc.length = i ∧ ∀ m y, acc[m]? = some y → Rl m y G)
    ⟨H, [], (Nw.refl (e0.trans e1)).go (Ex.new hD), fresh_back (e0.trans e1) hD, upd_same, rfl, fun m y hj => by simp at hj⟩ (fun i H' hi p => ?_) (fun H' p => ?_)
  · obtain ⟨G, acc, nw, gD, hacc, hl, hr⟩ := p
    have ne : H' L ≠ none := by rw [hacc]; exact fun z => nomatch z
    have e0' : (0 : Int) + (i : Int) = (i : Int) := Int.zero_add _
    rw [e0']
    refine hs i G H' nw.up nw.st (by omega) _ fun y G' H2 n' r => ?_
    have n2 := nw.trans n'
    have g2 : G' L = none := n'.fr L gD ne
    refine ⟨acc, n'.kp _ _ hacc, sz_lt (by omega), G', acc ++ [y], ⟨n2.up, n2.st.mut g2, n2.kp.mut hD, n2.fr⟩, g2, upd_same, by rw [List.length_append, hl]; rfl, fun m z hj => ?_⟩
    by_cases hji : m < acc.length
    · rw [List.getElem?_append_left hji] at hj
      exact hm m z G G' (hr m z hj) n'.up
    · have := (List.getElem?_eq_some_iff.mp hj).1
      rw [List.length_append, List.length_singleton] at this
      have ej : m = acc.length := by omega
      rw [ej, List.getElem?_append_right (Nat.le_refl _)] at hj
      simp at hj
      rw [ej, hl, ← hj]
      exact r
  · obtain ⟨G, acc, nw, gD, hacc, hl, hr⟩ := p
    refine q (.ref L) (upd G L (.lst acc)) H' ⟨nw.up.trans (Ex.new gD), fun b u z => ?_, e1.trans nw.kp, fun b z z1 => ?_⟩ ⟨L, acc, rfl, fresh_back (e0.trans e1) hD, upd_same, by rw [hl]; simp, fun m y hj => hm m y G _ (hr m y hj) (Ex.new gD)⟩
    · by_cases w : b = L
      · rw [w, upd_same] at z
        rw [w, hacc, z]
      · rw [upd_ne w] at z
        exact nw.st _ _ z
    · have w : b ≠ L := fun w => z1 (by rw [w]; exact fresh_back e1 hD)
      rw [upd_ne w]
      exact nw.fr b z (by
        cases y : H0 b with
        | none => exact absurd y z1
        | some o => rw [e1 _ _ y]; exact fun z => nomatch z)
/-- [e for k in range(n)], n and each e drawn, n between two bounds -/
theorem eg_lcR2 {n1 n0 : Nat} {Kp : V → Prop} (h : EvGA tr σ B d fun us _ => ∃ n : Nat, us = [.int (n : Int)] ∧ n1 ≤ n ∧ n ≤ n0) (hn0 : n0 ≤ 40000) (hw : ∀ x, wipe ((wipe σ vs).set j (some x)) vs = wipe σ vs)
    (he : ∀ (i : Nat) B1, Ex B B1 → EvG te ((wipe σ vs).set j (some (.int (i : Int)))) B1 d fun v _ => Kp v) :
    EvG (tLc (iRng1 tr) (gName j) tYes te vs) σ B d fun u B' => ∃ p xs, u = .ref p ∧ B p = none ∧ B' p = some (.lst xs) ∧ n1 ≤ xs.length ∧ xs.length ≤ n0 ∧ ∀ x ∈ xs, Kp x := fun H s Q q =>
  h H s _ fun us B1 H1 e1 s1 r1 => by
    obtain ⟨n, rfl, hn1, hn⟩ := r1
    refine ⟨(n : Int), rfl, by omega, by omega, fun L hL => ?_⟩
    have nb : B1 L = none := fresh_back s1.ex hL
    refine lc_range (lo := 0) (n := ((n : Int) - 0).toNat) (fun i H' => ∃ B2 acc, Ex B1 B2 ∧ Sd B2 d H' ∧ B2 L = some (.lst acc) ∧ acc.length = i ∧ ∀ x ∈ acc, Kp x) ⟨upd B1 L (.lst []), [], Ex.new nb, (s1.mono (Ex.new hL)).known (s1.ne hL) upd_same, upd_same, rfl, fun x hx => absurd hx (by simp)⟩ (fun i H2 hi p => ?_) (fun H2 p => ?_)
    · obtain ⟨B2, acc, e2, s2, h2, hl, hx⟩ := p
      have e0 : (0 : Int) + (i : Int) = (i : Int) := Int.zero_add _
      rw [e0]
      refine ⟨hw _, ?_⟩
      show (fun b H3 => _) true H2
      simp only [if_true]
      refine he i B2 (e1.trans e2) H2 s2 _ fun v B3 H3 e3 s3 r3 => ?_
      have h3 : B3 L = some (.lst acc) := e3 _ _ h2
      refine ⟨acc, s3.ex _ _ h3, sz_lt (by omega), upd B3 L (.lst (acc ++ [v])), acc ++ [v], (e2.trans e3).mut nb, s3.change h3, upd_same, by rw [List.length_append, hl]; rfl, fun x hx2 => ?_⟩
      rcases List.mem_append.mp hx2 with z | z
      · exact hx x z
      · rw [List.mem_singleton.mp z]
        exact r3
    · obtain ⟨B2, acc, e2, s2, h2, hl, hx⟩ := p
      exact q (.ref L) B2 H2 (e1.trans e2) s2 ⟨L, acc, rfl, fresh_back e1 nb, h2, by omega, by omega, hx⟩
/-- xs[i] = e, both drawn -/
theorem g_setG {l : Addr} {xs : List V} {Pv : V → Prop} (h : EvG te σ B d fun v _ => Pv v) (ha : ∀ B1, Ev ta σ B1 (.ref l)) (hi : ∀ B1, Ex B B1 → EvG ti σ B1 d fun v _ => ∃ m : Nat, v = .int (m : Int) ∧ m < xs.length) (hl : B l = some (.lst xs)) (s : Sd B d H)
    (k : ∀ v m B1 H1, Ex B B1 → Pv v → m < xs.length → Sd (upd B1 l (.lst (xs.set m v))) d H1 → D.nx σ H1) : tAsg te (gSub ta ti rSetL) D σ H :=
  h H s _ fun v B1 H1 e1 s1 r1 => ha B1 H1 s1.ex _ fun H2 e2 => hi B1 e1 H2 (s1.mono e2) _ fun w B2 H3 e3 s3 r3 => by
    obtain ⟨m, rfl, hm⟩ := r3
    have h3 := e3 _ _ (e1 _ _ hl)
    exact ⟨l, xs, (m : Int), m, rfl, rfl, s3.ex _ _ h3, ixN_nat hm, k v m B2 _ (e1.trans e3) r1 hm (s3.change h3)⟩
end
end KD
-- E25
namespace K01
open PySem PySem.Spec PyProof.Rows L2 Evl KEv TL KDd KSq KSame KTxt KHot KSup KNew KRvT KD
/-! _law_name, _law_names -/
section
variable {P : Program} {w : World} {K : PySem.W.Frag} {mg : Str → Option Value} {base : Heap} {σ : L2.St} {H : Hp}
theorem len_app (a b : Str) : (a ++ b).length = a.length + b.length := by
  rw [len_tl, tl_append, List.length_append, ← len_tl, ← len_tl]
abbrev TakeAt (P : Program) (w : World) (K : PySem.W.Frag) (mg : Str → Option Value) (base : Heap) (f : Addr) (fd : FuncData) : Prop := GenAt P w K mg base 1 "_law_take" ["draws", "many"] spTake f fd
def spName : Sp := spGen (fun rest _ => ∃ m : Nat, rest = [.int (m : Int)] ∧ m ≤ 100) (fun rest v _ => ∃ x : Str, v = .str x ∧ x.length ≤ 100)
theorem scN1 : FnScope ["draws", "many", "text", "k"] ["draws", "many"] (defScope (topS 21)) := ⟨rfl, rfl, rfl, by decide +kernel, rfl, by decide +kernel, by decide +kernel⟩
theorem ok_name {f ft : Addr} {fd fdt : FuncData} (D : DefAt K mg 21 "_law_name" ["draws", "many"] f fd) (T : TakeAt P w K mg base ft fdt) (N : Nm mg) (M : NmS mg) : FnOk P w K mg base CX0 2 f fd ["draws", "many"] spName := by
  refine D.F.ok scN1 (fun vs H Q E h => ?_) (fun cdv A outer s H vs Q E hr h => ?_)
  · obtain ⟨d, rest, rfl, _, ⟨m, rfl, _⟩, _⟩ := h
    rfl
  · obtain ⟨d, rest, rfl, hd, ⟨m, rfl, hm⟩, k⟩ := h
    refine ⟨_, (pss_cons (ps_asg pe_str (pg_name (i := 2) scN1.nd rfl (.inl rfl))) (pss_cons (ps_for PassesOwn.never rfl (pi_range1 (by rfl) M.range (pa_cons (pv 1) pa_nil)) (pg_name (i := 3) scN1.nd rfl (.inl rfl)) (pss_one (ps_asg (pe_op op_addS (pv 2) (pe_ix ix_str pe_str (pe_call T.F (hr.mono (by decide)) (by rfl) T.g T.kp T.b .nil pass0 (pa_cons (pv 0) (pa_cons (pe_op op_sub pe_int (pe_op op_mul pe_int (pe_callTy call_intI (by rfl) M.int (by decide +kernel) (pa_cons (pe_cmpR op_eq (pv 3) pe_int (nomark _)) pa_nil)))) pa_nil))) (fun _ _ => rfl))) (pg_name (i := 2) scN1.nd rfl (.inl rfl))))) (pss_one (ps_ret (pv 2))))), ?_⟩
    have s0 := Sd.of hd
    refine q_asg ev_c fun H1 e1 => ?_
    refine g_range (j := 3) (n := m) (B := hide H d) (d := d) (ea_cons (ev_var rfl) ea_nil) (s0.mono e1) (by omega) (fun i σ' H' => ∃ (B2 : Hp) (x : Str) (u3 : Option V), σ' = [some (.ref d), some (.int m), some (.str x), u3] ∧ Ex (hide H d) B2 ∧ Sd B2 d H' ∧ x.length = i)
      (fun H2 s2 => ⟨_, _, _, rfl, Ex.refl _, s2, rfl⟩) (fun i σ' H2 hi p => ?_) (fun σ' H2 p => ?_)
    · obtain ⟨B2, x, u3, rfl, e2, s2, hl⟩ := p
      obtain ⟨bb, hbb⟩ : ∃ bb : Bool, bb = decide (V.int (i : Int) = V.int 0) := ⟨_, rfl⟩
      have hv : (0 : Int) < 36 - 10 * (if bb = true then 1 else 0) ∧ (36 : Int) - 10 * (if bb = true then 1 else 0) ≤ 36 := by cases bb <;> decide
      refine g_asg (R := fun v _ => ∃ y : Str, v = .str y ∧ y.length = i + 1) (eg_opV (ev_var rfl) (eg_signN (n := 36) ev_c (EvG.sd (eg_takeN (m := 36 - 10 * (if bb = true then 1 else 0)) (ev_var rfl) (ev_op ev_c (ev_op ev_c (ev_cb (ea_cons (ev_is (ev_op (ev_var rfl) ev_c (rv_eq rfl)) (by rw [hbb])) ea_nil) rc_intB) (rv_I (.inl (by decide)))) rv_I0) hv.1) fun v _ h => ?_) (by decide) (by decide)) fun y B3 e3 hy => ?_) s2 fun v B3 H3 e3 s3 r => ?_
      · obtain ⟨n, rfl, hn⟩ := h
        exact ⟨n, rfl, by omega⟩
      · obtain ⟨c, rfl, _⟩ := hy
        exact ⟨_, rv_addS (by show _ + 1 ≤ _; omega), _, rfl, by rw [len_app, hl]; rfl⟩
      · obtain ⟨y, rfl, hy⟩ := r
        exact ⟨B3, y, _, rfl, e2.trans e3, s3, hy⟩
    · obtain ⟨B2, x, u3, rfl, e2, s2, hl⟩ := p
      exact s_ret (ev_var rfl) fun H3 e3 => k _ B2 H3 e2 (s2.mono e3) ⟨x, rfl, by omega⟩
def spNames : Sp := spGenF (fun rest _ => ∃ m : Nat, rest = [.int (m : Int)] ∧ m ≤ 13) (fun rest Bh v B => ∃ p, ∃ ss : List Str, v = .ref p ∧ Bh p = none ∧ B p = some (.lst (ss.map V.str)) ∧ rest = [.int (ss.length : Int)] ∧ ∀ x ∈ ss, x.length ≤ 200)
theorem scN2 : FnScope ["draws", "many", "names", "k", "name"] ["draws", "many"] (defScope (topS 22)) := ⟨rfl, rfl, rfl, by decide +kernel, rfl, by decide +kernel, by decide +kernel⟩
theorem ok_names {f ft fn : Addr} {fd fdt fdn : FuncData} (D : DefAt K mg 22 "_law_names" ["draws", "many"] f fd) (T : TakeAt P w K mg base ft fdt) (NM : GenAt P w K mg base 2 "_law_name" ["draws", "many"] spName fn fdn) (N : Nm mg) (M : NmS mg) : FnOk P w K mg base CX0 3 f fd ["draws", "many"] spNames := by
  refine D.F.ok scN2 (fun vs H Q E h => ?_) (fun cdv A outer s H vs Q E hr h => ?_)
  · obtain ⟨d, rest, rfl, _, ⟨m, rfl, _⟩, _⟩ := h
    rfl
  · obtain ⟨d, rest, rfl, hd, ⟨m, rfl, hm⟩, k⟩ := h
    refine ⟨_, (pss_cons (ps_asg (pe_lst pa_nil) (pg_name (i := 2) scN2.nd rfl (.inl rfl))) (pss_cons (ps_for PassesOwn.never rfl (pi_range1 (by rfl) M.range (pa_cons (pv 1) pa_nil)) (pg_name (i := 3) scN2.nd rfl (.inl rfl)) (pss_cons (ps_asg (pe_call NM.F (hr.mono (by decide)) (by rfl) NM.g NM.kp NM.b .nil pass0 (pa_cons (pv 0) (pa_cons (pe_ix (r := rIxL K) ix_list (pe_lst (pa_cons pe_int (pa_cons pe_int (pa_cons pe_int (pa_cons pe_int (pa_cons pe_int pa_nil)))))) (pe_call T.F (hr.mono (by decide)) (by rfl) T.g T.kp T.b .nil pass0 (pa_cons (pv 0) (pa_cons pe_int pa_nil))) (fun _ _ => rfl)) pa_nil))) (pg_name (i := 4) scN2.nd rfl (.inl rfl))) (pss_cons (ps_if (pt_cmpR (r := rIn K false) op_in_seq (pv 4) (pv 2) rfl) (pss_one (ps_asg (pe_op op_addS (pe_op op_addS (pe_slice sl_str (pv 4) po_none (po_some pe_int)) pe_str) (pe_callTy call_strI (by rfl) M.str (by decide +kernel) (pa_cons (pv 3) pa_nil))) (pg_name (i := 4) scN2.nd rfl (.inl rfl)))) pss_nil) (pss_one (ps_expr (pe_bm PySem.F.plainAttrs_list PySem.F.slot_list_append PySem.F.type_list_append mt_append (pv 2) (pa_cons (pv 4) pa_nil))))))) (pss_one (ps_ret (pv 2))))), ?_⟩
    have s0 := Sd.of hd
    refine q_asgL (el_lst ea_nil (by decide)) fun p H1 hp e1 h1 => ?_
    have nb : (hide H d) p = none := fresh_back hide_ex hp
    have s1 : Sd (L2.upd (hide H d) p (.lst [])) d H1 := (s0.mono e1).known (s0.ne hp) h1
    refine g_range (j := 3) (n := m) (B := L2.upd (hide H d) p (.lst [])) (d := d) (ea_cons (ev_var rfl) ea_nil) s1 (by omega) (fun i σ' H' => ∃ (B2 : Hp) (ss : List Str) (u3 u4 : Option V), σ' = [some (.ref d), some (.int m), some (.ref p), u3, u4] ∧ Ex (hide H d) B2 ∧ Sd B2 d H' ∧ B2 p = some (.lst (ss.map V.str)) ∧ ss.length = i ∧ ∀ x ∈ ss, x.length ≤ 200)
      (fun H2 s2 => ⟨_, [], _, _, rfl, Ex.new nb, s2, upd_same, rfl, fun x hx => by cases hx⟩) (fun i σ' H2 hi q => ?_) (fun σ' H2 q => ?_)
    · obtain ⟨B2, ss, u3, u4, rfl, e2, s2, h2, hl, hss⟩ := q
      refine gq_asg (R := fun v _ => ∃ x : Str, v = .str x ∧ x.length ≤ 100) (eg_call1 (R1 := fun v _ => ∃ n : Nat, v = .int (n : Int) ∧ n ≤ 100) (ev_var rfl) (eg_itemN (n := 5) (Pv := fun v => ∃ n : Nat, v = .int (n : Int) ∧ n ≤ 100) (EvG.sd (eg_liftL (xs := [.int 1, .int 2, .int 3, .int 7, .int 24]) (el_lst (ea_cons ev_c (ea_cons ev_c (ea_cons ev_c (ea_cons ev_c (ea_cons ev_c ea_nil))))) (by simp))) fun v B3 r => ?_) fun B1 => eg_takeN (m := 5) (ev_var rfl) ev_c (by decide)) (fun v B1 H1 _ h _ => h.imp fun n h => ⟨by rw [h.1], h.2⟩) fun v u B1 B3 _ h _ r => ?_) s2 fun v B3 H3 e3 s3 r => ?_
      · obtain ⟨q, rfl, _, _, rfl⟩ := r
        refine ⟨q, _, rfl, upd_same, by decide, fun v hv => ?_⟩
        simp only [List.mem_cons, List.not_mem_nil, or_false] at hv
        rcases hv with rfl | rfl | rfl | rfl | rfl
        · exact ⟨1, rfl, by decide⟩
        · exact ⟨2, rfl, by decide⟩
        · exact ⟨3, rfl, by decide⟩
        · exact ⟨7, rfl, by decide⟩
        · exact ⟨24, rfl, by decide⟩
      · exact r
      · obtain ⟨x, rfl, hx⟩ := r
        have h3 := e3 _ _ h2
        refine gq_when (b := decide (x ∈ ss)) (et_is (et_test (ev_op (ev_var rfl) (ev_var rfl) (rv_isL (sq_of h3) rfl (flat_txt _)))) inV_txt) s3 (fun _ H4 s4 => ?_) (fun _ H4 s4 => ?_)
        · have hc : (cutS x none (some 20)).length ≤ 100 := Nat.le_trans (cutS_length x none (some 20)) hx
          have hz : (toString (i : Int) : Str).length ≤ 20 := by
            rw [show (toString (i : Int) : Str) = Str.ofString (toString (i : Int)) from rfl, len_tl, tl_num]
            exact numL_len (by decide) (by omega)
          refine s_asg (ev_op (ev_op (ev_slS (ev_var rfl) eo_none (eo_some ev_c) (by omega)) ev_c (rv_addS (by show _ + 1 ≤ _; omega))) (ev_cb (ea_cons (ev_var rfl) ea_nil) (rc_strI (by omega))) (rv_addS (by rw [len_app]; show _ + 1 + _ ≤ _; omega))) fun H5 e5 => ?_
          have s4 := s4.mono e5
          refine g_app (l := p) (xs := ss.map V.str) h3 (fun _ => ev_var rfl) (eg_ev (v := .str (cutS x none (some 20) ++ "x" ++ toString (i : Int))) (ev_var rfl)) (by rw [List.length_map]; omega) s4 fun v B5 H5 e5 r s5 => ?_
          subst r
          exact ⟨_, ss ++ [(cutS x none (some 20) ++ "x" ++ toString (i : Int))], _, _, rfl, ((e2.trans e3).trans e5).mut nb, s5, by rw [upd_same, List.map_append]; rfl, by rw [List.length_append, hl]; rfl, fun y hy => by
            rcases List.mem_append.mp hy with z | z
            · exact hss y z
            · rw [List.mem_singleton.mp z]
              rw [len_app, len_app]; show _ + 1 + _ ≤ _; omega⟩
        · refine g_app (l := p) (xs := ss.map V.str) h3 (fun _ => ev_var rfl) (eg_ev (v := .str x) (ev_var rfl)) (by rw [List.length_map]; omega) s4 fun v B5 H5 e5 r s5 => ?_
          subst r
          exact ⟨_, ss ++ [x], _, _, rfl, ((e2.trans e3).trans e5).mut nb, s5, by rw [upd_same, List.map_append]; rfl, by rw [List.length_append, hl]; rfl, fun y hy => by
            rcases List.mem_append.mp hy with z | z
            · exact hss y z
            · rw [List.mem_singleton.mp z]
              omega⟩
    · obtain ⟨B2, ss, u3, u4, rfl, e2, s2, h2, hl, hss⟩ := q
      exact s_ret (ev_var rfl) fun H3 e3 => k _ B2 H3 e2 (s2.mono e3) ⟨p, ss, rfl, nb, h2, by rw [hl], hss⟩
end
end K01
-- E26
namespace K01
open PySem PySem.Spec PyProof.Rows L2 Evl KEv TL KDd KSq KSame KTxt KHot KSup KNew KRvT KD
/-! _law_sorts, _law_signs -/
section
variable {P : Program} {w : World} {K : PySem.W.Frag} {mg : Str → Option Value} {base : Heap} {σ : L2.St} {H : Hp}
def SzR (sorts : List Row) : Prop := ∀ r ∈ sorts, r.1.length ≤ 200 ∧ r.2.length ≤ 200
def SzG (m : Nat) (signs : List Sgn) : Prop := ∀ g ∈ signs, g.1.length ≤ 200 ∧ g.2.1.length ≤ m ∧ g.2.2.length ≤ 200
def spSorts : Sp := spGenF (fun rest _ => ∃ m : Nat, rest = [.int (m : Int)] ∧ m ≤ 9) (fun rest Bh v B => ∃ b sorts, v = .ref b ∧ Bh b = none ∧ RowsAt (FrRow Bh) B b sorts ∧ rest = [.int (sorts.length : Int)] ∧ SzR sorts)
theorem scS1 : FnScope ["draws", "many", "names", "begin", "step", "k"] ["draws", "many"] (defScope (topS 23)) := ⟨rfl, rfl, rfl, by decide +kernel, rfl, by decide +kernel, by decide +kernel⟩
theorem ok_sorts {f ft fn : Addr} {fd fdt fdn : FuncData} (D : DefAt K mg 23 "_law_sorts" ["draws", "many"] f fd) (T : TakeAt P w K mg base ft fdt) (NS : GenAt P w K mg base 3 "_law_names" ["draws", "many"] spNames fn fdn) (N : Nm mg) (M : NmS mg) : FnOk P w K mg base CX0 4 f fd ["draws", "many"] spSorts := by
  refine D.F.ok scS1 (fun vs H Q E h => ?_) (fun cdv A outer s H vs Q E hr h => ?_)
  · obtain ⟨d, rest, rfl, _, ⟨m, rfl, _⟩, _⟩ := h
    rfl
  · obtain ⟨d, rest, rfl, hd, ⟨m, rfl, hm⟩, k⟩ := h
    refine ⟨_, (pss_cons (ps_asg (pe_call NS.F (hr.mono (by decide)) (by rfl) NS.g NS.kp NS.b .nil pass0 (pa_cons (pv 0) (pa_cons (pv 1) pa_nil))) (pg_name (i := 2) scS1.nd rfl (.inr rfl))) (pss_cons (ps_asg (pe_call T.F (hr.mono (by decide)) (by rfl) T.g T.kp T.b .nil pass0 (pa_cons (pv 0) (pa_cons pe_int pa_nil))) (pg_name (i := 3) scS1.nd rfl (.inr rfl))) (pss_cons (ps_asg (pe_ix (r := rIxL K) ix_list (pe_lst (pa_cons pe_int (pa_cons pe_int (pa_cons pe_int (pa_cons pe_int (pa_cons pe_int (pa_cons pe_int (pa_cons pe_int (pa_cons pe_int (pa_cons pe_int (pa_cons pe_int (pa_cons pe_int (pa_cons pe_int pa_nil))))))))))))) (pe_call T.F (hr.mono (by decide)) (by rfl) T.g T.kp T.b .nil pass0 (pa_cons (pv 0) (pa_cons pe_int pa_nil))) (fun _ _ => rfl)) (pg_name (i := 4) scS1.nd rfl (.inr rfl))) (pss_one (ps_ret (pe_lc (own := [("k", 5)]) (g := gName 5) rfl scS1.nd (pi_range1 (by rfl) M.range (pa_cons (pv 1) pa_nil)) (blkOk_by (own := [("k", 5)]) (N := ["draws", "many", "names", "begin", "step", "k"]) (sc := defScope (topS 23)) (by decide +kernel)) (fun _ _ _ _ _ => pg_name (i := 5) scS1.nd rfl (.inl rfl) (hf := .inr rfl)) (fun _ _ _ _ _ => pts_nil) (fun _ _ _ _ _ => (pe_lst (pa_cons (pe_ix (r := rIxL K) ix_list (pv 2) (pv 5) (fun _ _ => rfl)) (pa_cons (pe_ix ix_str pe_str (pe_op op_modN (pe_callTy call_intI (by rfl) M.int (by decide +kernel) (pa_cons (pe_op op_add (pv 3) (pe_op op_mul (pv 5) (pv 4))) pa_nil)) pe_int) (fun _ _ => rfl)) pa_nil)))))))))), ?_⟩
    have s0 := Sd.of hd
    refine gq_asg (eg_callP (rest := [.int (m : Int)]) (ea_cons (ev_var rfl) (ea_cons (ev_var rfl) ea_nil)) (fun _ _ => ⟨m, rfl, by omega⟩)) s0 fun v B1 H1 e1 s1 r => ?_
    obtain ⟨Bh, _, _, p, ss, rfl, _, hp1, hm2, hss⟩ := r
    obtain rfl : m = ss.length := by
      have := V.int.inj (List.cons.inj hm2).1
      omega
    refine gq_asg (eg_takeN (m := 26) (ev_var rfl) ev_c (by decide)) s1 fun v B2 H2 e2 s2 r => ?_
    obtain ⟨n1, rfl, hn1⟩ := r
    refine gq_asg (R := fun v _ => ∃ n : Nat, v = .int (n : Int) ∧ n ≤ 25) (eg_itemN (n := 12) (Pv := fun v => ∃ n : Nat, v = .int (n : Int) ∧ n ≤ 25) (EvG.sd (eg_liftL (xs := [.int 1, .int 3, .int 5, .int 7, .int 9, .int 11, .int 15, .int 17, .int 19, .int 21, .int 23, .int 25]) (el_lst (ea_cons ev_c (ea_cons ev_c (ea_cons ev_c (ea_cons ev_c (ea_cons ev_c (ea_cons ev_c (ea_cons ev_c (ea_cons ev_c (ea_cons ev_c (ea_cons ev_c (ea_cons ev_c (ea_cons ev_c ea_nil)))))))))))) (by simp))) fun v B3 r => ?_) fun B1 => eg_takeN (m := 12) (ev_var rfl) ev_c (by decide)) s2 fun v B3 H3 e3 s3 r => ?_
    · obtain ⟨q, rfl, _, _, rfl⟩ := r
      refine ⟨q, _, rfl, upd_same, by decide, fun v hv => ?_⟩
      simp only [List.mem_cons, List.not_mem_nil, or_false] at hv
      rcases hv with rfl | rfl | rfl | rfl | rfl | rfl | rfl | rfl | rfl | rfl | rfl | rfl
      · exact ⟨1, rfl, by decide⟩
      · exact ⟨3, rfl, by decide⟩
      · exact ⟨5, rfl, by decide⟩
      · exact ⟨7, rfl, by decide⟩
      · exact ⟨9, rfl, by decide⟩
      · exact ⟨11, rfl, by decide⟩
      · exact ⟨15, rfl, by decide⟩
      · exact ⟨17, rfl, by decide⟩
      · exact ⟨19, rfl, by decide⟩
      · exact ⟨21, rfl, by decide⟩
      · exact ⟨23, rfl, by decide⟩
      · exact ⟨25, rfl, by decide⟩
    · obtain ⟨n2, rfl, hn2⟩ := r
      have hp3 := e3 _ _ (e2 _ _ hp1)
      obtain ⟨row, hrow⟩ : ∃ row : Nat → Row, row = fun i => (ss.getD i Str.empty, ⟨#[(tl capitals).getD ((((n1 : Int) + (i : Int) * (n2 : Int)).fmod 26).toNat) 0]⟩) := ⟨_, rfl⟩
      have hsl : ∀ i, i < ss.length → ((List.range ss.length).map row)[i]? = some (row i) := fun i hi => by
        rw [List.getElem?_map, List.getElem?_range hi]
        rfl
      refine g_ret (eg_new (en_lcRF (n := ss.length) (fun i y G => ∃ p r, y = V.ref p ∧ ((List.range ss.length).map row)[i]? = some r ∧ FrRow B3 G p r) (fun i y G G' h e => ?_) (ea_cons (ev_var rfl) ea_nil) (by omega) fun i G H4 eG eH hi Q q => ?_)) s3 fun v B4 H4 e4 s4 r => ?_
      · obtain ⟨p, r, z1, z2, z3⟩ := h
        exact ⟨p, r, z1, z2, frRow_mono _ _ _ _ _ e z3⟩
      · have hch : ∃ c, (tl capitals)[(((n1 : Int) + (i : Int) * (n2 : Int)).fmod 26).toNat]? = some c := by
          have hm := mod_range (a := (n1 : Int) + (i : Int) * (n2 : Int)) (show (0 : Int) < 26 by decide)
          exact ⟨_, List.getElem?_eq_getElem (by show _ < 26; omega)⟩
        obtain ⟨c, hc⟩ := hch
        have hm := mod_range (a := (n1 : Int) + (i : Int) * (n2 : Int)) (show (0 : Int) < 26 by decide)
        have hri : row i = (ss.getD i Str.empty, ⟨#[c]⟩) := by
          rw [hrow]
          show (_, _) = _
          rw [List.getD_eq_getElem?_getD (l := tl capitals), hc]
          rfl
        have hsi : ss[i]? = some (ss.getD i Str.empty) := by
          rw [List.getD_eq_getElem?_getD, List.getElem?_eq_getElem hi]
          rfl
        refine ⟨rfl, (en_elF (el_lst (ea_cons (ev_op (ev_var rfl) (ev_var rfl) (rv_ixL (sq_of (eG _ _ hp3)) (atI_nat (by rw [List.getElem?_map, hsi]; rfl)))) (ea_cons (ev_op ev_c (ev_op (ev_cb (ea_cons (ev_op (ev_var rfl) (ev_op (ev_var rfl) (ev_var rfl) (rv_I (.inl ⟨by omega, by omega⟩))) rv_I0) ea_nil) rc_intI) ev_c (rv_I (by decide))) (rv_ixS (c := c) (by decide) (by
          rw [show ((n1 : Int) + (i : Int) * (n2 : Int)).fmod 26 = (((((n1 : Int) + (i : Int) * (n2 : Int)).fmod 26).toNat : Nat) : Int) by omega]
          exact atI_nat hc))) ea_nil)) (by simp))) H4 eH Q fun v G' H5 n r' => q v G' H5 n ?_⟩
        obtain ⟨t, ys, rfl, h0, ht, rfl⟩ := r'
        exact ⟨t, row i, rfl, hsl i hi, fresh_back eG h0, by rw [hri]; exact ht⟩
      · obtain ⟨t, rfl, h0, hrows⟩ := rows_ofL (rs := (List.range ss.length).map row) (f := FrRow B3) (n := ss.length) (by simp) r
        have e14 := (e1.trans e2).trans e3
        refine k _ B4 H4 (e14.trans e4) s4 ⟨t, _, rfl, fresh_back e14 h0, hrows.map (fun p r h => ⟨fresh_back e14 h.1, h.2⟩) (Ex.refl _), by simp, fun r hr => ?_⟩
        obtain ⟨i, hi, rfl⟩ := List.mem_map.mp hr
        have hi := List.mem_range.mp hi
        rw [hrow]
        refine ⟨?_, by show 1 ≤ 200; decide⟩
        show (ss.getD i Str.empty).length ≤ 200
        rw [List.getD_eq_getElem?_getD, List.getElem?_eq_getElem hi]
        exact hss _ (List.getElem_mem hi)
def spSigns : Sp := spGenF (fun rest H1 => ∃ (b : Addr) (sorts : List Row) (m : Nat), rest = [.ref b, .int (m : Int)] ∧ RowsAt RowAt H1 b sorts ∧ 1 ≤ sorts.length ∧ sorts.length ≤ 9 ∧ SzR sorts ∧ m ≤ 13) (fun rest Bh v B => ∃ c signs, v = .ref c ∧ Bh c = none ∧ RowsAt (FrSgn Bh) B c signs ∧ rest[1]? = some (.int (signs.length : Int)) ∧ SzG 4 signs)
theorem hide_mono {B B' : Hp} {b : Addr} (e : Ex B B') : Ex (hide B b) (hide B' b) := fun p o h => by
  by_cases z : p = b
  · rw [z, hide_at] at h
    cases h
  · rw [hide_ne z] at h ⊢
    exact e _ _ h
theorem hide_upd {B : Hp} {b : Addr} {o : HO} : hide (L2.upd B b o) b = hide B b := funext fun p => by
  by_cases z : p = b
  · rw [z, hide_at, hide_at]
  · rw [hide_ne z, hide_ne z, upd_ne z]
/-- rows that do not hang on the list's own object -/
def RowsH {α : Type} (f : Hp → Addr → α → Prop) (B : Hp) (b : Addr) (rs : List α) : Prop := ∃ ads : List Addr, B b = some (.lst (ads.map V.ref)) ∧ ads.length = rs.length ∧ ∀ (i : Nat) (p : Addr) (r : α), ads[i]? = some p → rs[i]? = some r → f (hide B b) p r
section
variable {α : Type} {f : Hp → Addr → α → Prop} {B B' : Hp} {b p : Addr} {rs : List α} {r : α}
theorem RowsH.mono (hf : ∀ H H' p r, Ex H H' → f H p r → f H' p r) (h : RowsH f B b rs) (e : Ex B B') : RowsH f B' b rs := by
  obtain ⟨ads, h1, h2, h3⟩ := h
  exact ⟨ads, e _ _ h1, h2, fun i p r h4 h5 => hf _ _ _ _ (hide_mono e) (h3 i p r h4 h5)⟩
theorem RowsH.at_ (hf : ∀ H H' p r, Ex H H' → f H p r → f H' p r) (h : RowsH f B b rs) : RowsAt f B b rs := by
  obtain ⟨ads, h1, h2, h3⟩ := h
  exact ⟨ads, h1, h2, fun i p r h4 h5 => hf _ _ _ _ hide_ex (h3 i p r h4 h5)⟩
theorem RowsH.imp {g : Hp → Addr → α → Prop} (hf : ∀ p r, f (hide B b) p r → g (hide B b) p r) (h : RowsH f B b rs) : RowsH g B b rs := by
  obtain ⟨ads, h1, h2, h3⟩ := h
  exact ⟨ads, h1, h2, fun i p r h4 h5 => hf _ _ (h3 i p r h4 h5)⟩
theorem RowsH.app {xs : List V} (h : RowsH f B b rs) (hx : B b = some (.lst xs)) (hp : f (hide B b) p r) : RowsH f (L2.upd B b (.lst (xs ++ [.ref p]))) b (rs ++ [r]) := by
  obtain ⟨ads, h1, h2, h3⟩ := h
  have ex : xs = ads.map V.ref := by
    rw [h1] at hx
    exact (HO.lst.inj (Option.some.inj hx)).symm
  refine ⟨ads ++ [p], by rw [upd_same, ex, List.map_append]; rfl, by rw [List.length_append, List.length_append, h2]; rfl, fun i q s h4 h5 => ?_⟩
  rw [hide_upd]
  by_cases hi : i < ads.length
  · rw [List.getElem?_append_left hi] at h4
    rw [List.getElem?_append_left (by omega)] at h5
    exact h3 i q s h4 h5
  · rw [List.getElem?_append_right (by omega)] at h4
    rw [List.getElem?_append_right (by omega), ← h2] at h5
    have e0 : i - ads.length = 0 := by
      have := (List.getElem?_eq_some_iff.mp h4).1
      simp at this
      omega
    rw [e0] at h4 h5
    obtain rfl : p = q := by simpa using h4
    obtain rfl : r = s := by simpa using h5
    exact hp
/-- rows that do not hang on the list's own object, by what they hold -/
theorem RowsH.of (hf : ∀ (i : Nat) p r, rs[i]? = some r → f B p r → f (hide B b) p r) (h : RowsAt f B b rs) : RowsH f B b rs := by
  obtain ⟨ads, h1, h2, h3⟩ := h
  exact ⟨ads, h1, h2, fun i p r h4 h5 => hf i p r h5 (h3 i p r h4 h5)⟩
end
theorem strs_of {p : Str → Prop} : ∀ {xs : List V}, (∀ x ∈ xs, ∃ s, x = V.str s ∧ p s) → ∃ ss : List Str, xs = ss.map V.str ∧ ∀ s ∈ ss, p s
  | [], _ => ⟨[], rfl, fun s hs => by cases hs⟩
  | x :: xs, h => by
    obtain ⟨s, rfl, hs⟩ := h x List.mem_cons_self
    obtain ⟨ss, rfl, h2⟩ := strs_of (xs := xs) fun y hy => h y (List.mem_cons_of_mem _ hy)
    exact ⟨s :: ss, rfl, fun t ht => by
      rcases List.mem_cons.mp ht with rfl | ht
      · exact hs
      · exact h2 t ht⟩
def Sh (x : Str) : Prop := x.length ≤ 200
theorem scS2 : FnScope ["draws", "sorts", "many", "names", "row", "kinds", "k", "given", "signs", "name", "arguments"] ["draws", "sorts", "many"] (defScope (topS 24)) := ⟨rfl, rfl, rfl, by decide +kernel, rfl, by decide +kernel, by decide +kernel⟩
theorem ok_signs {f ft fn : Addr} {fd fdt fdn : FuncData} (D : DefAt K mg 24 "_law_signs" ["draws", "sorts", "many"] f fd) (T : TakeAt P w K mg base ft fdt) (NS : GenAt P w K mg base 3 "_law_names" ["draws", "many"] spNames fn fdn) (N : Nm mg) (M : NmS mg) : FnOk P w K mg base CX0 4 f fd ["draws", "sorts", "many"] spSigns := by
  refine D.F.ok scS2 (fun vs H Q E h => ?_) (fun cdv A outer s H vs Q E hr h => ?_)
  · obtain ⟨d, rest, rfl, _, ⟨b, sorts, m, rfl, _⟩, _⟩ := h
    rfl
  · obtain ⟨d, rest, rfl, hd, ⟨b, sorts, m, rfl, hb, hs1, hs9, hsz, hm⟩, k⟩ := h
    refine ⟨_, (pss_cons (ps_asg (pe_call NS.F (hr.mono (by decide)) (by rfl) NS.g NS.kp NS.b .nil pass0 (pa_cons (pv 0) (pa_cons (pv 2) pa_nil))) (pg_name (i := 3) scS2.nd rfl (.inl rfl))) (pss_cut (ps_if (PW.pt (pw_and (pt_tru (pv 3)) (pw_and1 (pt_cmpR op_eq (pe_call T.F (hr.mono (by decide)) (by rfl) T.g T.kp T.b .nil pass0 (pa_cons (pv 0) (pa_cons pe_int pa_nil))) pe_int (nomark _))))) (pss_one (ps_asg (pe_ix (r := rIxL K) ix_list (pe_ix (r := rIxL K) ix_list (pv 1) (pe_call T.F (hr.mono (by decide)) (by rfl) T.g T.kp T.b .nil pass0 (pa_cons (pv 0) (pa_cons (pe_callB (r := rLenS K) call_len_seq (by rfl) N.len PySem.boot_len (pa_cons (pv 1) pa_nil)) pa_nil))) (fun _ _ => rfl)) pe_int (fun _ _ => rfl)) (pg_sub (pv 3) (pe_call T.F (hr.mono (by decide)) (by rfl) T.g T.kp T.b .nil pass0 (pa_cons (pv 0) (pa_cons (pv 2) pa_nil))) set_list))) pss_nil) (pss_cons (ps_asg (pe_lc (own := [("row", 4)]) (g := gName 4) rfl scS2.nd (pi_list (pv 1)) (blkOk_by (own := [("row", 4)]) (N := ["draws", "sorts", "many", "names", "row", "kinds", "k", "given", "signs", "name", "arguments"]) (sc := defScope (topS 24)) (by decide +kernel)) (fun _ _ _ _ _ => pg_name (i := 4) scS2.nd rfl (.inl rfl) (hf := .inr rfl)) (fun _ _ _ _ _ => pts_nil) (fun _ _ _ _ _ => (pe_ix (r := rIxL K) ix_list (pv 4) pe_int (fun _ _ => rfl)))) (pg_name (i := 5) scS2.nd rfl (.inr rfl))) (pss_cons (ps_setLc (i := 7) (own := [("k", 6)]) (g := gName 6) rfl scS2.nd rfl rfl (sw_true rfl rfl rfl (by decide +kernel)) (pi_range1 (by rfl) M.range (pa_cons (pe_op op_add pe_int (pe_call T.F (hr.mono (by decide)) (by rfl) T.g T.kp T.b .nil pass0 (pa_cons (pv 0) (pa_cons pe_int pa_nil)))) pa_nil)) (blkOk_by (own := [("k", 6)]) (N := ["draws", "sorts", "many", "names", "row", "kinds", "k", "given", "signs", "name", "arguments"]) (sc := defScope (topS 24)) (by decide +kernel)) (fun _ _ _ _ _ => pg_name (i := 6) scS2.nd rfl (.inl rfl) (hf := .inr rfl)) (fun _ _ _ _ _ => pts_nil) (fun _ _ _ _ _ => (pe_ix (r := rIxL K) ix_list (pv 5) (pe_call T.F (hr.mono (by decide)) (by rfl) T.g T.kp T.b .nil pass0 (pa_cons (pv 0) (pa_cons (pe_callB (r := rLenS K) call_len_seq (by rfl) N.len PySem.boot_len (pa_cons (pv 5) pa_nil)) pa_nil))) (fun _ _ => rfl)))) (pss_cons (ps_asg (pe_lst pa_nil) (pg_name (i := 8) scS2.nd rfl (.inl rfl))) (pss_cons (ps_for PassesOwn.never rfl (pi_list (pv 3)) (pg_name (i := 9) scS2.nd rfl (.inl rfl)) (pss_cons (ps_setLc (i := 10) (own := [("k", 6)]) (g := gName 6) rfl scS2.nd rfl rfl (sw_true rfl rfl rfl (by decide +kernel)) (pi_range1 (by rfl) M.range (pa_cons (pe_call T.F (hr.mono (by decide)) (by rfl) T.g T.kp T.b .nil pass0 (pa_cons (pv 0) (pa_cons pe_int pa_nil))) pa_nil)) (blkOk_by (own := [("k", 6)]) (N := ["draws", "sorts", "many", "names", "row", "kinds", "k", "given", "signs", "name", "arguments"]) (sc := defScope (topS 24)) (by decide +kernel)) (fun _ _ _ _ _ => pg_name (i := 6) scS2.nd rfl (.inl rfl) (hf := .inr rfl)) (fun _ _ _ _ _ => pts_nil) (fun _ _ _ _ _ => (pe_ix (r := rIxL K) ix_list (pv 5) (pe_call T.F (hr.mono (by decide)) (by rfl) T.g T.kp T.b .nil pass0 (pa_cons (pv 0) (pa_cons (pe_callB (r := rLenS K) call_len_seq (by rfl) N.len PySem.boot_len (pa_cons (pv 5) pa_nil)) pa_nil))) (fun _ _ => rfl)))) (pss_one (ps_expr (pe_bm PySem.F.plainAttrs_list PySem.F.slot_list_append PySem.F.type_list_append mt_append (pv 8) (pa_cons (pe_lst (pa_cons (pv 9) (pa_cons (pv 10) (pa_cons (pe_ix (r := rIxL K) ix_list (pv 7) (pe_call T.F (hr.mono (by decide)) (by rfl) T.g T.kp T.b .nil pass0 (pa_cons (pv 0) (pa_cons (pe_callB (r := rLenS K) call_len_seq (by rfl) N.len PySem.boot_len (pa_cons (pv 7) pa_nil)) pa_nil))) (fun _ _ => rfl)) pa_nil)))) pa_nil)))))) (pss_one (ps_ret (pv 8))))))))), ?_⟩
    have s0 := Sd.of hd
    refine gq_asg (eg_callP (rest := [.int (m : Int)]) (ea_cons (ev_var rfl) (ea_cons (ev_var rfl) ea_nil)) (fun _ _ => ⟨m, rfl, hm⟩)) s0 fun v B1 H1 e1 s1 r => ?_
    obtain ⟨Bh, eh1, eh2, pn, ss, rfl, npn, hp1, hm2, hss⟩ := r
    obtain rfl : m = ss.length := by
      have := V.int.inj (List.cons.inj hm2).1
      omega
    have npn : (hide H d) pn = none := fresh_back eh1 npn
    have sl0 : ∀ r ∈ sorts, Sh r.1 := fun r hr => (hsz r hr).1
    refine q_cut (M := fun σ' H' => ∃ (B2 : Hp) (ss2 : List Str), σ' = [some (.ref d), some (.ref b), some (.int ss.length), some (.ref pn), none, none, none, none, none, none, none] ∧ Ex (hide H d) B2 ∧ Sd B2 d H' ∧ B2 pn = some (.lst (ss2.map V.str)) ∧ ss2.length = ss.length ∧ ∀ x ∈ ss2, Sh x) ?_ fun σ' H2 q => ?_
    · refine g_if (Rt := fun bb _ => bb = true → ss ≠ []) (egt_and (Rt := fun bb _ => bb = true → ss ≠ []) (Ru := fun _ _ => True) (?_ : EvGT _ _ _ _ _) (fun B8 e8 _ => egt_test (R := fun v _ => ∃ bb, v = .bl bb) (eg_opW (Rb := fun v _ => ∃ n : Nat, v = .int (n : Int) ∧ (n : Int) < 3) (eg_takeN (m := 3) (ev_var rfl) ev_c (by decide)) (fun _ _ _ _ => ev_c) fun v _ _ r => ?_) fun v _ _ r => ?_) (fun _ _ _ => fun z => by cases z) (fun bb B8 B9 _ h _ _ => fun _ => h rfl)) s1 (fun B3 H3 e3 s3 rt => ?_) (fun B3 H3 e3 s3 _ => ?_)
      · intro Hx sx Qx qx
        refine egt_lift (et_truL (xs := ss.map V.str) (ev_var rfl) (sq_of hp1)) Hx sx Qx fun bb B' H' e s' r => qx bb B' H' e s' fun hb => ?_
        rw [r.1] at hb
        intro z
        rw [z] at hb
        cases hb
      · obtain ⟨n, rfl, _⟩ := r
        exact ⟨_, rv_eq rfl, _, rfl⟩
      · obtain ⟨bb, rfl⟩ := r
        exact ⟨bb, rfl, trivial⟩
      · have hpos := List.length_pos_iff.mpr (rt rfl)
        have hp3 := e3 _ _ hp1
        refine g_setG (xs := ss.map V.str) (Pv := fun v => ∃ x : Str, v = .str x ∧ Sh x) (eg_opW (Rb := fun v B' => ∃ p r, v = .ref p ∧ RowAt B' p r ∧ Sh r.1) (eg_op (Rb := fun _ v _ => ∃ n : Nat, v = .int (n : Int) ∧ (n : Int) < (sorts.length : Int)) (eg_lift (ev_var rfl : Ev (tVar 1) _ B3 (.ref b))) (fun x B4 _ hx => by
            rw [hx.2]
            obtain ⟨ads, hbl, hbn, _⟩ := rowsAt_mono hb (e1.trans e3)
            exact eg_takeN (ev_var rfl) (ev_is (ev_len (xs := ads.map V.ref) (ev_var rfl) (sq_of hbl)) (by rw [List.length_map, hbn])) (by omega)) fun x y B4 B5 e4 hx e5 hy => ?_) (fun _ _ _ _ => ev_c) fun v B4 _ r => ?_) (fun _ => ev_var rfl) (fun B4 e4 => EvG.sd (eg_takeN (ev_var rfl) (ev_var rfl) (by omega)) fun v _ h => ?_) hp3 s3 fun v n B4 H4 e4 hv hn s4 => ?_
        · obtain ⟨n, rfl, hn⟩ := hy
          obtain ⟨r, er⟩ : ∃ r, sorts[n]? = some r := ⟨_, List.getElem?_eq_getElem (by omega)⟩
          rw [hx.2] at e5
          obtain ⟨ads, hbl, hbn, hrow⟩ := rowsAt_mono hb ((e1.trans e3).trans e5)
          obtain ⟨p, ep⟩ : ∃ p, ads[n]? = some p := ⟨_, List.getElem?_eq_getElem (by omega)⟩
          rw [hx.1]
          exact ⟨_, rv_ixL (sq_of hbl) (atI_nat (by rw [List.getElem?_map, ep]; rfl)), p, r, rfl, hrow n p r ep er, sl0 r (List.mem_of_getElem? er)⟩
        · obtain ⟨p, r, rfl, hp, hs⟩ := r
          exact ⟨_, rv_ixL (sq_of hp) (atI_nat (j := 0) rfl), r.1, rfl, hs⟩
        · obtain ⟨n, rfl, hn⟩ := h
          exact ⟨n, rfl, by rw [List.length_map]; omega⟩
        · obtain ⟨x, rfl, hx⟩ := hv
          refine ⟨_, ss.set n x, rfl, ((e1.trans e3).trans e4).mut npn, s4, by rw [upd_same, List.map_set], by simp, fun y hy => ?_⟩
          rcases List.mem_or_eq_of_mem_set hy with z | z
          · exact hss y z
          · rw [z]
            exact hx
      · exact ⟨B3, ss, rfl, e1.trans e3, s3, e3 _ _ hp1, rfl, hss⟩
    · obtain ⟨B2, ss2, rfl, e2, s2, hp2, hl2, hss2⟩ := q
      obtain ⟨ads, hbl, hbn, hrow⟩ := id hb
      have prow : ∀ (H1 H2 : Hp) (p : Addr) (r : Row), Ex H1 H2 → RowAt H1 p r → RowAt H2 p r := fun _ _ _ _ e h => row_mono e _ _ h
      refine gq_asg (eg_liftL (xs := (sorts.map (·.1)).map V.str) (by
        rw [List.map_map]
        exact el_col (f := RowAt) prow row_c0 (rowsAt_mono hb e2) (ev_var rfl) (by omega) (fun _ => rfl) (fun _ => rfl))) s2 fun v B3 H3 e3 s3 r => ?_
      obtain ⟨pk, rfl, npk, _, rfl⟩ := r
      have hk3 : (L2.upd B2 pk (.lst ((sorts.map (·.1)).map V.str))) pk = some (.lst ((sorts.map (·.1)).map V.str)) := upd_same
      have hp3 := e3 _ _ hp2
      have e3' := e2.trans e3
      generalize (L2.upd B2 pk (.lst ((sorts.map (·.1)).map V.str))) = B3 at e3 e3' s3 hk3 hp3
      have kl : ((sorts.map (·.1)).map V.str).length = sorts.length := by simp
      have item : ∀ {G : Hp} {σ : L2.St}, Ex B3 G → σ[0]? = some (some (.ref d)) → σ[5]? = some (some (.ref pk)) → EvG (tOp (rIxL K) (tVar 5) (tCall spTake [] E0 (tCons (tVar 0) (tCons (tCB (rLenS K) (tCons (tVar 5) tNil)) tNil)))) σ G d fun v _ => ∃ x : Str, v = .str x ∧ Sh x := fun {G σ} e h0 h5 =>
        EvG.sd (eg_itemL (n := (((sorts.map (·.1)).map V.str).length : Int)) (ev_var h5) (sq_of (e _ _ hk3)) (eg_takeN (ev_var h0) (ev_len (ev_var h5) (sq_of (e _ _ hk3))) (by omega)) (Int.le_refl _)) fun v _ h => by
          obtain ⟨x, hx, rfl⟩ := List.mem_map.mp h
          obtain ⟨r, hr, rfl⟩ := List.mem_map.mp hx
          exact ⟨r.1, rfl, sl0 r hr⟩
      refine gq_asg (eg_lcR2 (n1 := 1) (n0 := 3) (Kp := fun v => ∃ x : Str, v = .str x ∧ Sh x) (ega_sd (ega_one (eg_opV (R := fun v _ => ∃ n : Nat, v = .int (n : Int) ∧ 1 ≤ n ∧ n ≤ 3) ev_c (eg_takeN (m := 3) (ev_var rfl) ev_c (by decide)) fun y B4 e4 hy => ?_)) fun us B4 e4 h => ?_) (by decide) (fun _ => rfl) (fun i B4 e4 => item e4 rfl rfl)) s3 fun v B4 H4 e4 s4 r => ?_
      · obtain ⟨n, rfl, hn⟩ := hy
        exact ⟨_, rv_I0, 1 + n, by rw [Int.natCast_add]; rfl, by omega, by omega⟩
      · obtain ⟨v, rfl, n, rfl, h1, h2⟩ := h
        exact ⟨n, rfl, h1, h2⟩
      · obtain ⟨pv0, xs, rfl, npv, hv4, hx1, hx3, hxs⟩ := r
        refine q_asgL (el_lst ea_nil (by decide)) fun pc H5 npc e5 h5 => ?_
        have nc4 : B4 pc = none := fresh_back s4.ex npc
        have s5 : Sd (L2.upd B4 pc (.lst [])) d H5 := (s4.mono e5).known (s4.ne npc) h5
        have e45 : Ex B4 (L2.upd B4 pc (.lst [])) := Ex.new nc4
        have e05 := (e3'.trans e4).trans e45
        have ncH : (hide H d) pc = none := fresh_back (e3'.trans e4) nc4
        have hc5 : (L2.upd B4 pc (.lst [])) pc = some (.lst []) := upd_same
        refine q_forLB (K := K) (j := 9) (B := B4) (xs := ss2.map V.str) (e45.trans s5.ex) (ev_var rfl) (sq_of (e4 _ _ hp3)) (fun i σ' H' => ∃ (B6 : Hp) (sg : List Sgn) (u9 u10 : Option V), σ' = [some (.ref d), some (.ref b), some (.int ss.length), some (.ref pn), none, some (.ref pk), none, some (.ref pv0), some (.ref pc), u9, u10] ∧ Ex B4 B6 ∧ Sd B6 d H' ∧ RowsH (FrSgn (hide H d)) B6 pc sg ∧ sg.length = i ∧ SzG 4 sg)
          (fun H6 e6 => ⟨_, [], _, _, rfl, e45, s5.mono e6, ⟨[], hc5, rfl, fun i p r hp _ => by simp at hp⟩, rfl, fun g hg => by cases hg⟩) (fun i σ' H6 q => ?_) (fun i x σ' H6 hx q => ?_) (fun σ' H6 q => ?_)
        · obtain ⟨B6, sg, u9, u10, _, e6, s6, _⟩ := q
          exact e6.trans s6.ex
        · obtain ⟨B6, sg, u9, u10, rfl, e6, s6, hR, hl, hG⟩ := q
          rw [List.getElem?_map] at hx
          cases ex : ss2[i]? with
          | none => rw [ex] at hx; cases hx
          | some nm =>
            rw [ex] at hx
            obtain rfl : V.str nm = x := Option.some.inj hx
            have hnm := hss2 nm (List.mem_of_getElem? ex)
            refine gq_asg (eg_lcR2 (n1 := 0) (n0 := 4) (Kp := fun v => ∃ x : Str, v = .str x ∧ Sh x) (ega_sd (ega_one (eg_takeN (m := 5) (ev_var rfl) ev_c (by decide))) fun us B7 e7 h => ?_) (by decide) (fun _ => rfl) (fun i B7 e7 => item ((e4.trans e6).trans e7) rfl rfl)) s6 fun v B7 H7 e7 s7 r => ?_
            · obtain ⟨v, rfl, n, rfl, h1⟩ := h
              exact ⟨n, rfl, Nat.zero_le _, by omega⟩
            · obtain ⟨pa, ys, rfl, npa, ha7, _, hy4, hys⟩ := r
              obtain ⟨as, rfl, has⟩ := strs_of hys
              have hv7 := e7 _ _ (e6 _ _ hv4)
              have hR7 := hR.mono (frSgn_mono (hide H d)) e7
              obtain ⟨gds, hc7, hcn, hrg⟩ := id hR7
              have e04 := e3'.trans e4
              refine g_app (l := pc) (xs := gds.map V.ref) hc7 (fun _ => ev_var rfl) (eg_lst (ega_consV (ev_var rfl) (ega_consV (ev_var rfl) (ega_one (eg_itemL (n := (xs.length : Int)) (ev_var rfl) (sq_of hv7) (eg_takeN (ev_var rfl) (ev_len (ev_var rfl) (sq_of hv7)) (by omega)) (Int.le_refl _))))) fun us B8 h => ?_) (by rw [List.length_map, hcn, hl]; have := (List.getElem?_eq_some_iff.mp ex).1; omega) s7 fun v B9 H9 e9 r s9 => ?_
              · obtain ⟨_, rfl, _, rfl, _, rfl, _⟩ := h
                simp
              · obtain ⟨pr, us, B8, rfl, npr, npr8, e8, rfl, _, rfl, _, rfl, vr, rfl, hvr⟩ := r
                obtain ⟨rr, rfl, hrr⟩ := hxs vr hvr
                have n1 : pr ≠ pc := fun z => by rw [z, hc7] at npr; cases npr
                have n2 : pa ≠ pc := fun z => by rw [z, hR.choose_spec.1] at npa; cases npa
                have n3 : pa ≠ pr := fun z => by rw [← z, ha7] at npr; cases npr
                have fr : FrSgn (hide H d) (hide (L2.upd B8 pr (.lst [.str nm, .ref pa, .str rr])) pc) pr (nm, as, rr) :=
                  ⟨fresh_back ((e04.trans e6).trans e7) npr, pa, fresh_back (e04.trans e6) npa, by rw [hide_ne n1]; exact upd_same, by rw [hide_ne n2, upd_ne n3]; exact e8 _ _ ha7⟩
                refine ⟨_, sg ++ [(nm, as, rr)], _, _, rfl, ?_, s9, (hR7.mono (frSgn_mono (hide H d)) (e8.trans (Ex.new npr8))).app ((e8.trans (Ex.new npr8)) _ _ hc7) fr, by rw [List.length_append, hl]; rfl, fun g hg => ?_⟩
                · exact (((e6.trans e7).trans e8).trans (Ex.new npr8)).mut nc4
                · rcases List.mem_append.mp hg with z | z
                  · exact hG g z
                  · rw [List.mem_singleton.mp z]
                    exact ⟨hnm, by rw [List.length_map] at hy4; exact hy4, hrr⟩
        · obtain ⟨B6, sg, u9, u10, rfl, e6, s6, hR, hl, hG⟩ := q
          refine s_ret (ev_var rfl) fun H7 e7 => k _ B6 H7 ((e3'.trans e4).trans e6) (s6.mono e7) ⟨pc, sg, rfl, ncH, hR.at_ (frSgn_mono (hide H d)), ?_, hG⟩
          rw [List.length_map, hl2] at hl
          show some (V.int ((ss.length : Nat) : Int)) = _
          rw [hl]
end
end K01
-- E27
namespace K01
open PySem PySem.Spec PyProof.Rows L2 Evl KEv TL KDd KSq KSame KTxt KHot KSup KNew KRvT KD
/-! _law_spoil_sorts -/
section
variable {P : Program} {w : World} {K : PySem.W.Frag} {mg : Str → Option Value} {base : Heap} {σ : L2.St} {H B : Hp} {d : Addr}
/-- all but F stays -/
def ExF (F : Addr → Prop) (B B' : Hp) : Prop := ∀ p o, ¬ F p → B p = some o → B' p = some o
theorem ExF.of {F : Addr → Prop} {B B' : Hp} (e : Ex B B') : ExF F B B' := fun p o _ h => e _ _ h
theorem ExF.ex {F : Addr → Prop} {B B1 B2 : Hp} (h : ExF F B B1) (e : Ex B1 B2) : ExF F B B2 := fun p o hf ho => e _ _ (h p o hf ho)
theorem ExF.upd {F : Addr → Prop} {B B1 : Hp} {p : Addr} {o : HO} (h : ExF F B B1) (hp : F p) : ExF F B (L2.upd B1 p o) := fun q u hf hq => by
  rw [upd_ne (fun z => hf (by rw [z]; exact hp))]
  exact h q u hf hq
/-- a new thing that B does not know is changed -/
theorem ExF.updN {F : Addr → Prop} {B B1 : Hp} {p : Addr} {o : HO} (h : ExF F B B1) (hp : B p = none) : ExF F B (L2.upd B1 p o) := fun q u hf hq => by
  rw [upd_ne (fun z => by rw [z, hp] at hq; cases hq)]
  exact h q u hf hq
def FRow (F : Addr → Prop) : Hp → Addr → Row → Prop := fun G p r => F p ∧ RowAt G p r
theorem fRow_mono (F : Addr → Prop) (H H' : Hp) (p : Addr) (r : Row) (e : Ex H H') (h : FRow F H p r) : FRow F H' p r := ⟨h.1, e _ _ h.2⟩
/-- the sorts as own things -/
structure SF (F : Addr → Prop) (B : Hp) (b : Addr) (sorts : List Row) : Prop where
  fb : F b
  rs : RowsH (FRow F) B b sorts
theorem SF.mono {F : Addr → Prop} {B' : Hp} {b : Addr} {sorts : List Row} (h : SF F B b sorts) (e : Ex B B') : SF F B' b sorts := ⟨h.fb, h.rs.mono (fRow_mono F) e⟩
theorem SF.wide {F F' : Addr → Prop} {b : Addr} {sorts : List Row} (h : SF F B b sorts) (hf : ∀ p, F p → F' p) : SF F' B b sorts := ⟨hf _ h.fb, h.rs.imp fun p r z => ⟨hf _ z.1, z.2⟩⟩
theorem SF.rows {F : Addr → Prop} {b : Addr} {sorts : List Row} (h : SF F B b sorts) : RowsAt RowAt B b sorts := (h.rs.at_ (fRow_mono F)).map (fun p r z => z.2) (Ex.refl _)
theorem SF.row {F : Addr → Prop} {b : Addr} {sorts : List Row} {i : Nat} {r : Row} (h : SF F B b sorts) (er : sorts[i]? = some r) : ∃ ads : List Addr, ∃ p, B b = some (.lst (ads.map V.ref)) ∧ ads[i]? = some p ∧ F p ∧ p ≠ b ∧ RowAt B p r := by
  obtain ⟨ads, h1, h2, h3⟩ := h.rs
  obtain ⟨p, ep⟩ : ∃ p, ads[i]? = some p := ⟨_, List.getElem?_eq_getElem (by have := (List.getElem?_eq_some_iff.mp er).1; omega)⟩
  obtain ⟨z1, z2⟩ := h3 i p r ep er
  have hn : p ≠ b := fun z => by
    rw [z] at z2
    unfold RowAt at z2
    rw [hide_at] at z2
    cases z2
  exact ⟨ads, p, h1, ep, z1, hn, hide_ex _ _ z2⟩
/-- a row is changed -/
theorem SF.set {F : Addr → Prop} {b p : Addr} {sorts : List Row} {n c : Str} (h : SF F B b sorts) (hp : p ≠ b) : ∃ sorts', SF F (L2.upd B p (.lst [.str n, .str c])) b sorts' ∧ sorts'.length = sorts.length ∧ ∀ r ∈ sorts', r ∈ sorts ∨ r = (n, c) := by
  obtain ⟨fb, ads, h1, h2, h3⟩ := h
  have hg : ∀ i, i < sorts.length → ∃ r, sorts[i]? = some r := fun i hi => ⟨_, List.getElem?_eq_getElem hi⟩
  refine ⟨(List.range sorts.length).map fun i => if ads[i]? = some p then (n, c) else sorts.getD i (n, c), ⟨fb, ads, by rw [upd_ne (Ne.symm hp)]; exact h1, by simp [h2], fun i q r h4 h5 => ?_⟩, by simp, fun r hr => ?_⟩
  · have hi : i < sorts.length := by have := (List.getElem?_eq_some_iff.mp h4).1; omega
    rw [List.getElem?_map, List.getElem?_range hi] at h5
    have h5 := Option.some.inj h5
    obtain ⟨r0, er⟩ := hg i hi
    obtain ⟨z1, z2⟩ := h3 i q r0 h4 er
    refine ⟨z1, ?_⟩
    have nq : q ≠ b := fun z => by
      rw [z] at z2
      unfold RowAt at z2
      rw [hide_at] at z2
      cases z2
    by_cases e : q = p
    · have h5 : (if ads[i]? = some p then (n, c) else sorts.getD i (n, c)) = r := h5
      rw [h4, e, if_pos rfl] at h5
      unfold RowAt
      rw [hide_ne nq, e, upd_same, ← h5]
    · have h5 : (if ads[i]? = some p then (n, c) else sorts.getD i (n, c)) = r := h5
      rw [h4, if_neg (fun z => e (Option.some.inj z)), List.getD_eq_getElem?_getD, er] at h5
      obtain rfl : r0 = r := h5
      unfold RowAt at z2 ⊢
      rw [hide_ne nq] at z2 ⊢
      rw [upd_ne e]
      exact z2
  · obtain ⟨i, hi, rfl⟩ := List.mem_map.mp hr
    have hi := List.mem_range.mp hi
    split
    · exact .inr rfl
    · obtain ⟨r0, er⟩ := hg i hi
      rw [List.getD_eq_getElem?_getD, er]
      exact .inl (List.mem_of_getElem? er)
theorem SzR.set {sorts sorts' : List Row} {n c : Str} (h : SzR sorts) (hn : Sh n) (hc : Sh c) (hm : ∀ r ∈ sorts', r ∈ sorts ∨ r = (n, c)) : SzR sorts' := fun r hr => by
  rcases hm r hr with z | z
  · exact h r z
  · rw [z]
    exact ⟨hn, hc⟩
/-- sorts[a drawn place][c] -/
theorem eg_rowc {b : Addr} {sorts : List Row} {tb td : TE} {c : Int} {E : XK} {v : Row → V} (hv : ∀ (H1 : Hp) (p : Addr) (r : Row), RowAt H1 p r → ∃ xs, H1 p = some (.lst xs) ∧ atI xs c = some (v r)) (hb : RowsAt RowAt B b sorts) (h1 : 1 ≤ sorts.length) (hd : ∀ B1, Ev td σ B1 (.ref d)) (ht : ∀ B1, Ev tb σ B1 (.ref b)) :
    EvG (tOp (rIxL K) (tOp (rIxL K) tb (tCall spTake [] E (tCons td (tCons (tCB (rLenS K) (tCons tb tNil)) tNil)))) (tC (.int c))) σ B d fun u _ => ∃ r ∈ sorts, u = v r := by
  refine eg_opW (Rb := fun u B' => ∃ p r, u = .ref p ∧ RowAt B' p r ∧ r ∈ sorts) (eg_op (Rb := fun _ u _ => ∃ n : Nat, u = .int (n : Int) ∧ (n : Int) < (sorts.length : Int)) (eg_lift (ht B)) (fun x B4 _ hx => ?_) fun x y B4 B5 e4 hx e5 hy => ?_) (fun _ _ _ _ => ev_c) fun u B4 _ r => ?_
  · rw [hx.2]
    obtain ⟨ads, hbl, hbn, _⟩ := hb
    exact eg_takeN (hd _) (ev_is (ev_len (xs := ads.map V.ref) (ht _) (sq_of hbl)) (by rw [List.length_map, hbn])) (by omega)
  · obtain ⟨n, rfl, hn⟩ := hy
    obtain ⟨r, er⟩ : ∃ r, sorts[n]? = some r := ⟨_, List.getElem?_eq_getElem (by omega)⟩
    rw [hx.2] at e5
    obtain ⟨ads, hbl, hbn, hrow⟩ := rowsAt_mono hb e5
    obtain ⟨p, ep⟩ : ∃ p, ads[n]? = some p := ⟨_, List.getElem?_eq_getElem (by omega)⟩
    rw [hx.1]
    exact ⟨_, rv_ixL (sq_of hbl) (atI_nat (by rw [List.getElem?_map, ep]; rfl)), p, r, rfl, hrow n p r ep er, List.mem_of_getElem? er⟩
  · obtain ⟨p, r, rfl, hp, hs⟩ := r
    obtain ⟨xs, z1, z2⟩ := hv _ _ _ hp
    exact ⟨_, rv_ixL (sq_of z1) z2, r, hs, rfl⟩
/-- rows[at][m] = e, e drawn -/
theorem g_setRow {te ta ti : TE} {D : Ends} {l : Addr} {xs : List V} {Pv : V → Prop} {m : Nat} (h : EvG te σ B d fun v _ => Pv v) (ha : ∀ B1, Ex B B1 → Ev ta σ B1 (.ref l)) (hi : ∀ B1, Ev ti σ B1 (.int (m : Int))) (hm : m < xs.length) (hl : B l = some (.lst xs)) (s : Sd B d H)
    (k : ∀ v B1 H1, Ex B B1 → Pv v → Sd (L2.upd B1 l (.lst (xs.set m v))) d H1 → D.nx σ H1) : tAsg te (gSub ta ti rSetL) D σ H :=
  h H s _ fun v B1 H1 e1 s1 r1 => ha B1 e1 H1 s1.ex _ fun H2 e2 => hi B1 H2 (s1.ex.trans e2) _ fun H3 e3 =>
    ⟨l, xs, (m : Int), m, rfl, rfl, ((s1.mono e2).mono e3).ex _ _ (e1 _ _ hl), ixN_nat hm, k v B1 _ e1 r1 (((s1.mono e2).mono e3).change (e1 _ _ hl))⟩
/-- [a, b, ..][a drawn place], texts -/
theorem eg_menu {td : TE} {ta : TA} {E : XK} {ws : List Str} (hl : EvL (tLst ta) σ B (ws.map V.str)) {n : Int} (hn : 0 < n) (hw : n ≤ (ws.length : Int)) (hs : (ws.all fun x => decide (x.length ≤ 200)) = true) (hd : ∀ B1, Ev td σ B1 (.ref d)) : EvG (tOp (rIxL K) (tLst ta) (tCall spTake [] E (tCons td (tCons (tC (.int n)) tNil)))) σ B d fun v _ => ∃ x : Str, v = .str x ∧ Sh x :=
  eg_itemN (n := n) (Pv := fun v => ∃ x : Str, v = .str x ∧ Sh x) (EvG.sd (eg_liftL hl) fun v B3 r => by
    obtain ⟨q, rfl, _, _, rfl⟩ := r
    exact ⟨q, _, rfl, upd_same, by rw [List.length_map]; exact hw, fun v hv => by
      obtain ⟨x, hx, rfl⟩ := List.mem_map.mp hv
      exact ⟨x, rfl, (of_decide_eq_true (List.all_eq_true.mp hs x hx) : x.length ≤ 200)⟩⟩) fun B1 => eg_takeN (hd _) ev_c hn
def spSpoilS : Sp := fun vs H Q _ => ∃ (d b : Addr) (way : Int) (sorts : List Row) (F : Addr → Prop), vs = [.ref d, .ref b, .int way] ∧ Dr H d ∧ SF F (hide H d) b sorts ∧ 1 ≤ sorts.length ∧ sorts.length ≤ 9 ∧ SzR sorts ∧
  ∀ B' H' sorts' F', ExF F (hide H d) B' → Sd B' d H' → SF F' B' b sorts' → (∀ p, F' p → F p ∨ (hide H d) p = none) → sorts'.length ≤ 9 → SzR sorts' → Q .non H'
theorem s_clear {D : Ends} {ta : TE} {l : Addr} {xs : List V} (ha : Ev ta σ H (.ref l)) (hl : H l = some (.lst xs)) (k : ∀ H1, Ex H H1 → D.nx σ (L2.upd H1 l (.lst []))) : tDrop (tBM0 K "list" rClear ta) D σ H :=
  ha H (Ex.refl H) _ fun H1 e1 => ⟨.inl ⟨rfl, xs, sq_of (e1 _ _ hl)⟩, l, xs, rfl, rfl, e1 _ _ hl, k H1 e1⟩
theorem scSp : FnScope ["draws", "sorts", "way", "at", "row"] ["draws", "sorts", "way"] (defScope (topS 25)) := ⟨rfl, rfl, rfl, by decide +kernel, rfl, by decide +kernel, by decide +kernel⟩
theorem ok_spoilS {f ft fn : Addr} {fd fdt fdn : FuncData} (D : DefAt K mg 25 "_law_spoil_sorts" ["draws", "sorts", "way"] f fd) (T : TakeAt P w K mg base ft fdt) (SO : GenAt P w K mg base 4 "_law_sorts" ["draws", "many"] spSorts fn fdn) (N : Nm mg) (M : NmS mg) : FnOk P w K mg base CX0 5 f fd ["draws", "sorts", "way"] spSpoilS := by
  refine D.F.ok scSp (fun vs H Q E h => ?_) (fun cdv A outer s H vs Q E hr h => ?_)
  · obtain ⟨d, b, way, sorts, F, rfl, _⟩ := h
    rfl
  · obtain ⟨d, b, way, sorts, F, rfl, hd, hS, h1, h9, hz, k⟩ := h
    refine ⟨_, (pss_cons (ps_asg (pe_call T.F (hr.mono (by decide)) (by rfl) T.g T.kp T.b .nil pass0 (pa_cons (pv 0) (pa_cons (pe_callB (r := rLenS K) call_len_seq (by rfl) N.len PySem.boot_len (pa_cons (pv 1) pa_nil)) pa_nil))) (pg_name (i := 3) scSp.nd rfl (.inl rfl))) (pss_one (ps_if (pt_cmpR op_eq (pv 2) pe_int (nomark _)) (pss_one (ps_asg (pe_ix (r := rIxL K) ix_list (pe_lst (pa_cons pe_str (pa_cons pe_str (pa_cons pe_str (pa_cons pe_str (pa_cons pe_str (pa_cons (pe_op op_repS pe_str pe_int) (pa_cons pe_str (pa_cons pe_str pa_nil))))))))) (pe_call T.F (hr.mono (by decide)) (by rfl) T.g T.kp T.b .nil pass0 (pa_cons (pv 0) (pa_cons pe_int pa_nil))) (fun _ _ => rfl)) (pg_sub (pe_ix (r := rIxL K) ix_list (pv 1) (pv 3) (fun _ _ => rfl)) pe_int set_list))) (pss_one (ps_if (pt_cmpR op_eq (pv 2) pe_int (nomark _)) (pss_one (ps_asg (pe_ix (r := rIxL K) ix_list (pe_ix (r := rIxL K) ix_list (pv 1) (pe_call T.F (hr.mono (by decide)) (by rfl) T.g T.kp T.b .nil pass0 (pa_cons (pv 0) (pa_cons (pe_callB (r := rLenS K) call_len_seq (by rfl) N.len PySem.boot_len (pa_cons (pv 1) pa_nil)) pa_nil))) (fun _ _ => rfl)) pe_int (fun _ _ => rfl)) (pg_sub (pe_ix (r := rIxL K) ix_list (pv 1) (pv 3) (fun _ _ => rfl)) pe_int set_list))) (pss_one (ps_if (pt_cmpR op_eq (pv 2) pe_int (nomark _)) (pss_one (ps_asg (pe_ix (r := rIxL K) ix_list (pe_lst (pa_cons pe_str (pa_cons pe_str (pa_cons pe_str (pa_cons pe_str (pa_cons pe_str (pa_cons pe_str (pa_cons pe_str (pa_cons pe_str pa_nil))))))))) (pe_call T.F (hr.mono (by decide)) (by rfl) T.g T.kp T.b .nil pass0 (pa_cons (pv 0) (pa_cons pe_int pa_nil))) (fun _ _ => rfl)) (pg_sub (pe_ix (r := rIxL K) ix_list (pv 1) (pv 3) (fun _ _ => rfl)) pe_int set_list))) (pss_one (ps_if (pt_cmpR op_eq (pv 2) pe_int (nomark _)) (pss_one (ps_asg (pe_ix (r := rIxL K) ix_list (pe_ix (r := rIxL K) ix_list (pv 1) (pe_call T.F (hr.mono (by decide)) (by rfl) T.g T.kp T.b .nil pass0 (pa_cons (pv 0) (pa_cons (pe_callB (r := rLenS K) call_len_seq (by rfl) N.len PySem.boot_len (pa_cons (pv 1) pa_nil)) pa_nil))) (fun _ _ => rfl)) pe_int (fun _ _ => rfl)) (pg_sub (pe_ix (r := rIxL K) ix_list (pv 1) (pv 3) (fun _ _ => rfl)) pe_int set_list))) (pss_one (ps_if (pt_cmpR op_eq (pv 2) pe_int (nomark _)) (pss_one (ps_expr (pe_bm0 PySem.F.plainAttrs_list PySem.F.slot_list_clear PySem.F.type_list_clear mt_clear (pv 1)))) (pss_one (ps_for PassesOwn.never rfl (pi_list (pe_slice (r := rSlL K) sl_list (pe_call SO.F (hr.mono (by decide)) (by rfl) SO.g SO.kp SO.b .nil pass0 (pa_cons (pv 0) (pa_cons pe_int pa_nil))) (po_some (pe_callB (r := rLenS K) call_len_seq (by rfl) N.len PySem.boot_len (pa_cons (pv 1) pa_nil))) po_none)) (pg_name (i := 4) scSp.nd rfl (.inl rfl)) (pss_one (ps_expr (pe_bm PySem.F.plainAttrs_list PySem.F.slot_list_append PySem.F.type_list_append mt_append (pv 1) (pa_cons (pv 4) pa_nil))))))))))))))))), ?_⟩
    have s0 := Sd.of hd
    obtain ⟨ads0, hbl0, hbn0, _⟩ := hS.rows
    refine gq_asg (eg_takeN (m := (sorts.length : Int)) (ev_var rfl) (ev_is (ev_len (xs := ads0.map V.ref) (ev_var rfl) (sq_of hbl0)) (by rw [List.length_map, hbn0])) (by omega)) s0 fun v B1 H1 e1 s1 r => ?_
    obtain ⟨n1, rfl, hn1⟩ := r
    have hS1 := hS.mono e1
    obtain ⟨r1, er1⟩ : ∃ r, sorts[n1]? = some r := ⟨_, List.getElem?_eq_getElem (by omega)⟩
    have hr1 := hz r1 (List.mem_of_getElem? er1)
    obtain ⟨ads, p1, hbl, ep1, fp1, npb, hp1⟩ := hS1.row er1
    have at1 : ∀ {G : Hp} {σ : L2.St}, Ex B1 G → σ[1]? = some (some (.ref b)) → σ[3]? = some (some (.int (n1 : Int))) → Ev (tOp (rIxL K) (tVar 1) (tVar 3)) σ G (.ref p1) := fun e h1 h3 => ev_op (ev_var h1) (ev_var h3) (rv_ixL (sq_of (e _ _ hbl)) (atI_nat (by rw [List.getElem?_map, ep1]; rfl)))
    have neg : ∀ {j : Int}, decide (V.int way = V.int j) = false → decide (V.int way = V.int j) = false := fun h => h
    cases c0 : decide (V.int way = V.int 0) with
    | true =>
      refine g_ifP (b := true) (et_is (et_test (ev_op (ev_var rfl) ev_c (rv_eq rfl))) c0) s1 (fun _ H2 s2 => ?_) (fun z => by cases z)
      refine g_setRow (m := 0) (xs := [.str r1.1, .str r1.2]) (eg_menu (ws := [(Str.ofString ""), (Str.ofString "9a"), (Str.ofString "Wff"), (Str.ofString "a_b"), (Str.ofString "a b"), (repS (Str.ofString "x") 25), (Str.ofString "p\n"), (Str.ofString "_a")]) (el_lst (ea_cons ev_c (ea_cons ev_c (ea_cons ev_c (ea_cons ev_c (ea_cons ev_c (ea_cons (ev_op ev_c ev_c (rv_repS (n := 25) (by decide) (by decide) (by decide))) (ea_cons ev_c (ea_cons ev_c ea_nil)))))))) (by simp)) (n := 8) (by decide) (by decide) (by decide) (fun _ => ev_var rfl)) (fun B2 e2 => at1 e2 rfl rfl) (fun _ => ev_c) (by simp) hp1 s2 fun v B3 H3 e3 hv s3 => ?_
      obtain ⟨x, rfl, hx⟩ := hv
      obtain ⟨sorts', z1, z2, z3⟩ := (hS1.mono e3).set (n := x) (c := r1.2) npb
      exact k _ H3 sorts' F (((ExF.of e1).ex e3).upd fp1) s3 z1 (fun p hp => .inl hp) (by omega) (hz.set hx hr1.2 z3)
    | false =>
     refine g_ifP (b := false) (et_is (et_test (ev_op (ev_var rfl) ev_c (rv_eq rfl))) c0) s1 (fun z => by cases z) (fun _ H1 s1 => ?_)
     cases c1 : decide (V.int way = V.int 1) with
     | true =>
      refine g_ifP (b := true) (et_is (et_test (ev_op (ev_var rfl) ev_c (rv_eq rfl))) c1) s1 (fun _ H2 s2 => ?_) (fun z => by cases z)
      refine g_setRow (m := 0) (xs := [.str r1.1, .str r1.2]) (eg_rowc (v := (fun r => .str r.1)) row_c0 hS1.rows h1 (fun _ => ev_var rfl) (fun _ => ev_var rfl)) (fun B2 e2 => at1 e2 rfl rfl) (fun _ => ev_c) (by simp) hp1 s2 fun v B3 H3 e3 hv s3 => ?_
      obtain ⟨rr, hrr, rfl⟩ := hv
      have hx : Sh rr.1 := (hz rr hrr).1
      generalize rr.1 = x at hx s3
      obtain ⟨sorts', z1, z2, z3⟩ := (hS1.mono e3).set (n := x) (c := r1.2) npb
      exact k _ H3 sorts' F (((ExF.of e1).ex e3).upd fp1) s3 z1 (fun p hp => .inl hp) (by omega) (hz.set hx hr1.2 z3)
     | false =>
      refine g_ifP (b := false) (et_is (et_test (ev_op (ev_var rfl) ev_c (rv_eq rfl))) c1) s1 (fun z => by cases z) (fun _ H1 s1 => ?_)
      cases c2 : decide (V.int way = V.int 2) with
      | true =>
       refine g_ifP (b := true) (et_is (et_test (ev_op (ev_var rfl) ev_c (rv_eq rfl))) c2) s1 (fun _ H2 s2 => ?_) (fun z => by cases z)
       refine g_setRow (m := 1) (xs := [.str r1.1, .str r1.2]) (eg_menu (ws := [(Str.ofString ""), (Str.ofString "p"), (Str.ofString "PQ"), (Str.ofString "7"), (Str.ofString " "), (Str.ofString "AA"), (Str.ofString "["), (Str.ofString "A\n")]) (el_lst (ea_cons ev_c (ea_cons ev_c (ea_cons ev_c (ea_cons ev_c (ea_cons ev_c (ea_cons ev_c (ea_cons ev_c (ea_cons ev_c ea_nil)))))))) (by simp)) (n := 8) (by decide) (by decide) (by decide) (fun _ => ev_var rfl)) (fun B2 e2 => at1 e2 rfl rfl) (fun _ => ev_c) (by simp) hp1 s2 fun v B3 H3 e3 hv s3 => ?_
       obtain ⟨x, rfl, hx⟩ := hv
       obtain ⟨sorts', z1, z2, z3⟩ := (hS1.mono e3).set (n := r1.1) (c := x) npb
       exact k _ H3 sorts' F (((ExF.of e1).ex e3).upd fp1) s3 z1 (fun p hp => .inl hp) (by omega) (hz.set hr1.1 hx z3)
      | false =>
       refine g_ifP (b := false) (et_is (et_test (ev_op (ev_var rfl) ev_c (rv_eq rfl))) c2) s1 (fun z => by cases z) (fun _ H1 s1 => ?_)
       cases c3 : decide (V.int way = V.int 3) with
       | true =>
        refine g_ifP (b := true) (et_is (et_test (ev_op (ev_var rfl) ev_c (rv_eq rfl))) c3) s1 (fun _ H2 s2 => ?_) (fun z => by cases z)
        refine g_setRow (m := 1) (xs := [.str r1.1, .str r1.2]) (eg_rowc (v := (fun r => .str r.2)) row_c1 hS1.rows h1 (fun _ => ev_var rfl) (fun _ => ev_var rfl)) (fun B2 e2 => at1 e2 rfl rfl) (fun _ => ev_c) (by simp) hp1 s2 fun v B3 H3 e3 hv s3 => ?_
        obtain ⟨rr, hrr, rfl⟩ := hv
        have hx : Sh rr.2 := (hz rr hrr).2
        generalize rr.2 = x at hx s3
        obtain ⟨sorts', z1, z2, z3⟩ := (hS1.mono e3).set (n := r1.1) (c := x) npb
        exact k _ H3 sorts' F (((ExF.of e1).ex e3).upd fp1) s3 z1 (fun p hp => .inl hp) (by omega) (hz.set hr1.1 hx z3)
       | false =>
        refine g_ifP (b := false) (et_is (et_test (ev_op (ev_var rfl) ev_c (rv_eq rfl))) c3) s1 (fun z => by cases z) (fun _ H1 s1 => ?_)
        cases c4 : decide (V.int way = V.int 4) with
        | true =>
          refine g_ifP (b := true) (et_is (et_test (ev_op (ev_var rfl) ev_c (rv_eq rfl))) c4) s1 (fun _ H2 s2 => ?_) (fun z => by cases z)
          refine s_clear (l := b) (ev_var rfl) (s2.ex _ _ hbl) fun H3 e3 => ?_
          exact k _ _ [] F ((ExF.of e1).upd hS.fb) ((s2.mono e3).change hbl) ⟨hS.fb, [], upd_same, rfl, fun i p r hp _ => by simp at hp⟩ (fun p hp => .inl hp) (by simp) (fun r hr => by cases hr)
        | false =>
          refine g_ifP (b := false) (et_is (et_test (ev_op (ev_var rfl) ev_c (rv_eq rfl))) c4) s1 (fun z => by cases z) (fun _ H2 s2 => ?_)
          have e0 := e1
          have lenE : ∀ {G : Hp} {σ : L2.St}, Ex B1 G → σ[1]? = some (some (.ref b)) → Ev (tCB (rLenS K) (tCons (tVar 1) tNil)) σ G (.int (sorts.length : Int)) := fun e h => ev_is (ev_len (xs := ads.map V.ref) (ev_var h) (sq_of (e _ _ hbl))) (by
            obtain ⟨ads', z1, z2, _⟩ := hS1.rs
            rw [hbl] at z1
            have : ads.map V.ref = ads'.map V.ref := HO.lst.inj (Option.some.inj z1)
            rw [this, List.length_map, z2])
          have hit : EvG (tSl (rSlL K) (tCall spSorts [] E0 (tCons (tVar 0) (tCons (tC (.int 9)) tNil))) (tPart (tCB (rLenS K) (tCons (tVar 1) tNil))) tNoPart) [some (.ref d), some (.ref b), some (.int way), some (.int n1), none] B1 d fun u B' => ∃ p us, u = .ref p ∧ B1 p = none ∧ B' p = some (.lst us) ∧ us.length + sorts.length = 9 ∧ ∀ x ∈ us, ∃ q r, x = .ref q ∧ B1 q = none ∧ RowAt B' q r ∧ Sh r.1 ∧ Sh r.2 := fun Hx sx Qx qx => by
            refine eg_callP (rest := [.int 9]) (ea_cons (ev_var rfl) (ea_cons ev_c ea_nil)) (fun _ _ => ⟨9, rfl, by decide⟩) Hx sx _ fun v B3 H3 e3 s3 r => ?_
            obtain ⟨Bh, eh1, eh2, b9, s9, rfl, nb9, hR9, hl9, hz9⟩ := r
            obtain ⟨a9, hb9, hn9, hr9⟩ := hR9
            have l9 : s9.length = 9 := by
              have := V.int.inj (List.cons.inj hl9).1
              omega
            refine lenE e3 rfl H3 s3.ex _ fun H4 e4 => ⟨_, rfl, b9, a9.map V.ref, rfl, sq_of ((s3.mono e4).ex _ _ hb9), fun p hp => ?_⟩
            have s4 := s3.mono e4
            have np3 : B3 p = none := fresh_back s4.ex hp
            rw [cutV_drop]
            refine qx (.ref p) (L2.upd B3 p (.lst ((a9.map V.ref).drop sorts.length))) _ (e3.trans (Ex.new np3)) ((s4.mono (Ex.new hp)).known (s4.ne hp) upd_same) ⟨p, _, rfl, fresh_back e3 np3, upd_same, by rw [List.length_drop, List.length_map, hn9, l9]; omega, fun x hx => ?_⟩
            have hx := List.mem_of_mem_drop hx
            obtain ⟨q, hq, rfl⟩ := List.mem_map.mp hx
            obtain ⟨i, hi⟩ := List.mem_iff_getElem?.mp hq
            obtain ⟨r, er⟩ : ∃ r, s9[i]? = some r := ⟨_, List.getElem?_eq_getElem (by have := (List.getElem?_eq_some_iff.mp hi).1; omega)⟩
            obtain ⟨w1, w2⟩ := hr9 i q r hi er
            have w3 := hz9 r (List.mem_of_getElem? er)
            exact ⟨q, r, rfl, fresh_back eh1 w1, (Ex.new np3) _ _ w2, w3.1, w3.2⟩
          obtain ⟨F', hF'⟩ : ∃ F' : Addr → Prop, F' = fun p => F p ∨ (hide H d) p = none := ⟨_, rfl⟩
          refine hit H2 s2 _ fun v B3 H3 e3 s3 r => ?_
          obtain ⟨pl, us, rfl, npl, hpl, hul, hus⟩ := r
          have hS3 : SF F' B3 b sorts := (hS1.mono e3).wide fun p hp => by rw [hF']; exact .inl hp
          have nplb : pl ≠ b := fun z => by rw [z, hbl] at npl; cases npl
          refine ⟨pl, rfl, ⟨us, sq_of (s3.ex _ _ hpl)⟩, for_it (D := { nx := _, rt := _ }) (walk_list (K := K) (a := pl) (xs := us)) (fun i σ' H' => ∃ (B4 : Hp) (ss : List Row) (u4 : Option V), σ' = [some (.ref d), some (.ref b), some (.int way), some (.int n1), u4] ∧ ExF F (hide H d) B4 ∧ Sd B4 d H' ∧ B4 pl = some (.lst us) ∧ SF F' B4 b ss ∧ ss.length = sorts.length + i ∧ SzR ss ∧ ∀ x ∈ us, ∃ q r, x = .ref q ∧ B1 q = none ∧ RowAt B4 q r ∧ Sh r.1 ∧ Sh r.2)
            ⟨B3, sorts, none, rfl, (ExF.of e1).ex e3, s3, hpl, hS3, rfl, hz, hus⟩ (fun i σ' H' _ p => ?_) (fun i x σ' H4 H5 hi p y => ?_) (fun σ' H4 p => ?_)⟩
          · obtain ⟨B4, ss, u4, _, _, s4, h4, _⟩ := p
            exact sq_of (s4.ex _ _ h4)
          · obtain ⟨rfl, hx⟩ := y
            obtain ⟨B4, ss, u4, rfl, x4, s4, h4, hS4, hl4, hz4, hu4⟩ := p
            obtain ⟨q, r, rfl, nq, hq4, sr1, sr2⟩ := hu4 x (List.mem_of_getElem? hx)
            obtain ⟨ads4, hb4, hn4, _⟩ := id hS4.rs
            have nqb : q ≠ b := fun z => by rw [z, hbl] at nq; cases nq
            refine s_app (l := b) (xs := ads4.map V.ref) (s4.ex _ _ hb4) (ev_var rfl) (ev_var rfl) (by rw [List.length_map, hn4, hl4]; omega) fun H5 e5 => ?_
            refine ⟨_, ss ++ [r], _, rfl, x4.upd hS.fb, (s4.mono e5).change hb4, by rw [upd_ne nplb]; exact h4, ⟨hS4.fb, hS4.rs.app hb4 ⟨by rw [hF']; exact .inr (fresh_back e1 nq), by unfold RowAt; rw [hide_ne nqb]; exact hq4⟩⟩, by rw [List.length_append, hl4]; rfl, fun y hy => ?_, fun x hx => ?_⟩
            · rcases List.mem_append.mp hy with z | z
              · exact hz4 y z
              · rw [List.mem_singleton.mp z]
                exact ⟨sr1, sr2⟩
            · obtain ⟨q2, r2, rfl, nq2, hq2, w1, w2⟩ := hu4 x hx
              have n2b : q2 ≠ b := fun z => by rw [z, hbl] at nq2; cases nq2
              exact ⟨q2, r2, rfl, nq2, by unfold RowAt; rw [upd_ne n2b]; exact hq2, w1, w2⟩
          · obtain ⟨B4, ss, u4, rfl, x4, s4, h4, hS4, hl4, hz4, hu4⟩ := p
            exact k B4 H4 ss F' x4 s4 hS4 (fun p hp => by rw [hF'] at hp; exact hp) (by omega) hz4
end
end K01
-- E28
namespace K01
open PySem PySem.Spec PyProof.Rows L2 Evl KEv TL KDd KSq KSame KTxt KHot KSup KNew KRvT KD
/-! _law_spoil_signs -/
section
variable {P : Program} {w : World} {K : PySem.W.Frag} {mg : Str → Option Value} {base : Heap} {σ : L2.St} {H B : Hp} {d : Addr}
def FSgn (F : Addr → Prop) : Hp → Addr → Sgn → Prop := fun G p g => F p ∧ ∃ q, F q ∧ G p = some (.lst [.str g.1, .ref q, .str g.2.2]) ∧ G q = some (.lst (g.2.1.map V.str))
theorem fSgn_mono (F : Addr → Prop) (H H' : Hp) (p : Addr) (g : Sgn) (e : Ex H H') (h : FSgn F H p g) : FSgn F H' p g := by
  obtain ⟨h0, q, h1, h2, h3⟩ := h
  exact ⟨h0, q, h1, e _ _ h2, e _ _ h3⟩
/-- the signs as own things -/
structure GF (F : Addr → Prop) (B : Hp) (c : Addr) (signs : List Sgn) : Prop where
  fc : F c
  rs : RowsH (FSgn F) B c signs
theorem GF.mono {F : Addr → Prop} {B' : Hp} {c : Addr} {signs : List Sgn} (h : GF F B c signs) (e : Ex B B') : GF F B' c signs := ⟨h.fc, h.rs.mono (fSgn_mono F) e⟩
theorem GF.wide {F F' : Addr → Prop} {c : Addr} {signs : List Sgn} (h : GF F B c signs) (hf : ∀ p, F p → F' p) : GF F' B c signs := ⟨hf _ h.fc, h.rs.imp fun p r z => by
  obtain ⟨h0, q, h1, h2⟩ := z
  exact ⟨hf _ h0, q, hf _ h1, h2⟩⟩
theorem GF.rows {F : Addr → Prop} {c : Addr} {signs : List Sgn} (h : GF F B c signs) : RowsAt SgnAt B c signs := (h.rs.at_ (fSgn_mono F)).map (fun p r z => by
  obtain ⟨h0, q, h1, h2⟩ := z
  exact ⟨q, h2⟩) (Ex.refl _)
theorem GF.row {F : Addr → Prop} {c : Addr} {signs : List Sgn} {i : Nat} {g : Sgn} (h : GF F B c signs) (er : signs[i]? = some g) : ∃ ads : List Addr, ∃ p q, B c = some (.lst (ads.map V.ref)) ∧ ads[i]? = some p ∧ F p ∧ p ≠ c ∧ F q ∧ q ≠ c ∧ B p = some (.lst [.str g.1, .ref q, .str g.2.2]) ∧ B q = some (.lst (g.2.1.map V.str)) := by
  obtain ⟨ads, h1, h2, h3⟩ := h.rs
  obtain ⟨p, ep⟩ : ∃ p, ads[i]? = some p := ⟨_, List.getElem?_eq_getElem (by have := (List.getElem?_eq_some_iff.mp er).1; omega)⟩
  obtain ⟨z1, q, z2, z3, z4⟩ := h3 i p g ep er
  have hn : p ≠ c := fun z => by rw [z, hide_at] at z3; cases z3
  have hm : q ≠ c := fun z => by rw [z, hide_at] at z4; cases z4
  exact ⟨ads, p, q, h1, ep, z1, hn, z2, hm, hide_ex _ _ z3, hide_ex _ _ z4⟩
/-- a row is changed -/
theorem GF.set {F : Addr → Prop} {c p q' : Addr} {signs : List Sgn} {n z : Str} {as : List Str} {x0 : V} {l0 : List V} (h : GF F B c signs) (hp : p ≠ c) (hpx : ∃ q0 x z0, B p = some (.lst [.str x, .ref q0, .str z0])) (fq : F q') (hq : q' ≠ c) (hq2 : B q' = some (.lst (as.map V.str))) : ∃ signs', GF F (L2.upd B p (.lst [.str n, .ref q', .str z])) c signs' ∧ signs'.length = signs.length ∧ ∀ r ∈ signs', r ∈ signs ∨ r = (n, as, z) := by
  obtain ⟨fb, ads, h1, h2, h3⟩ := h
  obtain ⟨q0, x, z0, hpx⟩ := hpx
  have hg : ∀ i, i < signs.length → ∃ r, signs[i]? = some r := fun i hi => ⟨_, List.getElem?_eq_getElem hi⟩
  have nstr : ∀ {q : Addr} {ss : List Str}, B q = some (.lst (ss.map V.str)) → q ≠ p := fun {q ss} hh w => by
    rw [w, hpx] at hh
    have := HO.lst.inj (Option.some.inj hh)
    match ss, this with
    | [], this => simp at this
    | [_], this => simp at this
    | _ :: _ :: _, this => simp at this
  refine ⟨(List.range signs.length).map fun i => if ads[i]? = some p then (n, as, z) else signs.getD i (n, as, z), ⟨fb, ads, by rw [upd_ne (Ne.symm hp)]; exact h1, by simp [h2], fun i r0 r h4 h5 => ?_⟩, by simp, fun r hr => ?_⟩
  · have hi : i < signs.length := by have := (List.getElem?_eq_some_iff.mp h4).1; omega
    rw [List.getElem?_map, List.getElem?_range hi] at h5
    have h5 : (if ads[i]? = some p then (n, as, z) else signs.getD i (n, as, z)) = r := Option.some.inj h5
    obtain ⟨g0, er⟩ := hg i hi
    obtain ⟨z1, q, z2, z3, z4⟩ := h3 i r0 g0 h4 er
    have nr : r0 ≠ c := fun w => by rw [w, hide_at] at z3; cases z3
    have nq : q ≠ c := fun w => by rw [w, hide_at] at z4; cases z4
    refine ⟨z1, ?_⟩
    by_cases e : r0 = p
    · rw [h4, e, if_pos rfl] at h5
      refine ⟨q', fq, ?_, ?_⟩
      · rw [hide_ne nr, e, upd_same, ← h5]
      · rw [hide_ne hq, upd_ne (nstr hq2), ← h5]
        exact hq2
    · rw [h4, if_neg (fun w => e (Option.some.inj w)), List.getD_eq_getElem?_getD, er] at h5
      obtain rfl : g0 = r := h5
      rw [hide_ne nr] at z3
      rw [hide_ne nq] at z4
      exact ⟨q, z2, by rw [hide_ne nr, upd_ne e]; exact z3, by rw [hide_ne nq, upd_ne (nstr z4)]; exact z4⟩
  · obtain ⟨i, hi, rfl⟩ := List.mem_map.mp hr
    have hi := List.mem_range.mp hi
    split
    · exact .inr rfl
    · obtain ⟨r0, er⟩ := hg i hi
      rw [List.getD_eq_getElem?_getD, er]
      exact .inl (List.mem_of_getElem? er)
theorem SzG.set {m : Nat} {signs signs' : List Sgn} {n z : Str} {as : List Str} (h : SzG m signs) (hn : Sh n) (ha : as.length ≤ m + 1) (hc : Sh z) (hm : ∀ r ∈ signs', r ∈ signs ∨ r = (n, as, z)) : SzG (m + 1) signs' := fun r hr => by
  rcases hm r hr with w | w
  · have := h r w
    exact ⟨this.1, by omega, this.2.2⟩
  · rw [w]
    exact ⟨hn, ha, hc⟩
theorem eg_menuP {td : TE} {ta : TA} {E : XK} {ws : List Str} (hl : EvL (tLst ta) σ B (ws.map V.str)) {n : Int} (hn : 0 < n) (hw : n ≤ (ws.length : Int)) (hs : ∀ x ∈ ws, Sh x) (hd : ∀ B1, Ev td σ B1 (.ref d)) : EvG (tOp (rIxL K) (tLst ta) (tCall spTake [] E (tCons td (tCons (tC (.int n)) tNil)))) σ B d fun v _ => ∃ x : Str, v = .str x ∧ Sh x :=
  eg_itemN (n := n) (Pv := fun v => ∃ x : Str, v = .str x ∧ Sh x) (EvG.sd (eg_liftL hl) fun v B3 r => by
    obtain ⟨q, rfl, _, _, rfl⟩ := r
    exact ⟨q, _, rfl, upd_same, by rw [List.length_map]; exact hw, fun v hv => by
      obtain ⟨x, hx, rfl⟩ := List.mem_map.mp hv
      exact ⟨x, rfl, hs x hx⟩⟩) fun B1 => eg_takeN (hd _) ev_c hn
theorem eg_sgnc {c : Addr} {signs : List Sgn} {tb td : TE} {k : Int} {E : XK} {v : Sgn → V} (hv : ∀ (H1 : Hp) (p : Addr) (r : Sgn), SgnAt H1 p r → ∃ xs, H1 p = some (.lst xs) ∧ atI xs k = some (v r)) (hb : RowsAt SgnAt B c signs) (h1 : 1 ≤ signs.length) (hd : ∀ B1, Ev td σ B1 (.ref d)) (ht : ∀ B1, Ev tb σ B1 (.ref c)) :
    EvG (tOp (rIxL K) (tOp (rIxL K) tb (tCall spTake [] E (tCons td (tCons (tCB (rLenS K) (tCons tb tNil)) tNil)))) (tC (.int k))) σ B d fun u _ => ∃ r ∈ signs, u = v r := by
  refine eg_opW (Rb := fun u B' => ∃ p r, u = .ref p ∧ SgnAt B' p r ∧ r ∈ signs) (eg_op (Rb := fun _ u _ => ∃ n : Nat, u = .int (n : Int) ∧ (n : Int) < (signs.length : Int)) (eg_lift (ht B)) (fun x B4 _ hx => ?_) fun x y B4 B5 e4 hx e5 hy => ?_) (fun _ _ _ _ => ev_c) fun u B4 _ r => ?_
  · rw [hx.2]
    obtain ⟨ads, hbl, hbn, _⟩ := hb
    exact eg_takeN (hd _) (ev_is (ev_len (xs := ads.map V.ref) (ht _) (sq_of hbl)) (by rw [List.length_map, hbn])) (by omega)
  · obtain ⟨n, rfl, hn⟩ := hy
    obtain ⟨r, er⟩ : ∃ r, signs[n]? = some r := ⟨_, List.getElem?_eq_getElem (by omega)⟩
    rw [hx.2] at e5
    obtain ⟨ads, hbl, hbn, hrow⟩ := sgnsAt_mono hb e5
    obtain ⟨p, ep⟩ : ∃ p, ads[n]? = some p := ⟨_, List.getElem?_eq_getElem (by omega)⟩
    rw [hx.1]
    exact ⟨_, rv_ixL (sq_of hbl) (atI_nat (by rw [List.getElem?_map, ep]; rfl)), p, r, rfl, hrow n p r ep er, List.mem_of_getElem? er⟩
  · obtain ⟨p, r, rfl, hp, hs⟩ := r
    obtain ⟨xs, z1, z2⟩ := hv _ _ _ hp
    exact ⟨_, rv_ixL (sq_of z1) z2, r, hs, rfl⟩
/-- rows[at][m] = a new list -/
theorem s_setRowL {te ta ti : TE} {D : Ends} {l : Addr} {xs ys : List V} {m : Nat} (h : EvL te σ B ys) (ha : ∀ B1, Ex B B1 → Ev ta σ B1 (.ref l)) (hi : ∀ B1, Ev ti σ B1 (.int (m : Int))) (hm : m < xs.length) (hl : B l = some (.lst xs)) (s : Sd B d H)
    (k : ∀ q B1 H1, B q = none → Ex B B1 → B1 q = some (.lst ys) → Sd (L2.upd B1 l (.lst (xs.set m (.ref q)))) d H1 → D.nx σ H1) : tAsg te (gSub ta ti rSetL) D σ H :=
  h H s.ex _ fun q H1 nq e1 hq => by
    have nb : B q = none := fresh_back s.ex nq
    have s1 : Sd (L2.upd B q (.lst ys)) d H1 := (s.mono e1).known (s.ne nq) hq
    have e0 : Ex B (L2.upd B q (.lst ys)) := Ex.new nb
    exact ha _ e0 H1 s1.ex _ fun H2 e2 => hi _ H2 (s1.ex.trans e2) _ fun H3 e3 => ⟨l, xs, (m : Int), m, rfl, rfl, ((s1.mono e2).mono e3).ex _ _ (e0 _ _ hl), ixN_nat hm, k q _ _ nb e0 upd_same (((s1.mono e2).mono e3).change (e0 _ _ hl))⟩
def spSpoilG : Sp := fun vs H Q _ => ∃ (d c : Addr) (way : Int) (signs : List Sgn) (F : Addr → Prop) (m : Nat), vs = [.ref d, .ref c, .int way] ∧ Dr H d ∧ GF F (hide H d) c signs ∧ 1 ≤ signs.length ∧ signs.length ≤ 13 ∧ SzG m signs ∧ 5 ≤ m ∧ m ≤ 100 ∧
  ∀ B' H' signs' F', ExF F (hide H d) B' → Sd B' d H' → GF F' B' c signs' → (∀ p, F' p → F p ∨ (hide H d) p = none) → 1 ≤ signs'.length → signs'.length ≤ 13 → SzG (m + 1) signs' → Q .non H'
theorem scSq : FnScope ["draws", "signs", "way", "at", "unknown", "k", "place", "name"] ["draws", "signs", "way"] (defScope (topS 26)) := ⟨rfl, rfl, rfl, by decide +kernel, rfl, by decide +kernel, by decide +kernel⟩
theorem ok_spoilG {f ft fn : Addr} {fd fdt fdn : FuncData} (D : DefAt K mg 26 "_law_spoil_signs" ["draws", "signs", "way"] f fd) (T : TakeAt P w K mg base ft fdt) (NS : GenAt P w K mg base 3 "_law_names" ["draws", "many"] spNames fn fdn) (N : Nm mg) (M : NmS mg) : FnOk P w K mg base CX0 4 f fd ["draws", "signs", "way"] spSpoilG := by
  refine D.F.ok scSq (fun vs H Q E h => ?_) (fun cdv A outer s H vs Q E hr h => ?_)
  · obtain ⟨d, c, way, signs, F, m, rfl, _⟩ := h
    rfl
  · obtain ⟨d, c, way, signs, F, m, rfl, hd, hS, h1, h13, hz, hm5, hm100, k⟩ := h
    refine ⟨_, (pss_cons (ps_asg (pe_call T.F (hr.mono (by decide)) (by rfl) T.g T.kp T.b .nil pass0 (pa_cons (pv 0) (pa_cons (pe_callB (r := rLenS K) call_len_seq (by rfl) N.len PySem.boot_len (pa_cons (pv 1) pa_nil)) pa_nil))) (pg_name (i := 3) scSq.nd rfl (.inr rfl))) (pss_cons (ps_asg (pe_ix (r := rIxL K) ix_list (pe_lst (pa_cons pe_str (pa_cons pe_str (pa_cons pe_str (pa_cons (pe_ix (r := rIxL K) ix_list (pe_ix (r := rIxL K) ix_list (pv 1) pe_int (fun _ _ => rfl)) pe_int (fun _ _ => rfl)) (pa_cons pe_str pa_nil)))))) (pe_call T.F (hr.mono (by decide)) (by rfl) T.g T.kp T.b .nil pass0 (pa_cons (pv 0) (pa_cons pe_int pa_nil))) (fun _ _ => rfl)) (pg_name (i := 4) scSq.nd rfl (.inl rfl))) (pss_one (ps_if (pt_cmpR op_eq (pv 2) pe_int (nomark _)) (pss_one (ps_asg (pe_ix (r := rIxL K) ix_list (pe_lst (pa_cons pe_str (pa_cons pe_str (pa_cons pe_str (pa_cons pe_str (pa_cons pe_str (pa_cons (pe_op op_repS pe_str pe_int) (pa_cons pe_str (pa_cons pe_str pa_nil))))))))) (pe_call T.F (hr.mono (by decide)) (by rfl) T.g T.kp T.b .nil pass0 (pa_cons (pv 0) (pa_cons pe_int pa_nil))) (fun _ _ => rfl)) (pg_sub (pe_ix (r := rIxL K) ix_list (pv 1) (pv 3) (fun _ _ => rfl)) pe_int set_list))) (pss_one (ps_if (pt_cmpR op_eq (pv 2) pe_int (nomark _)) (pss_one (ps_asg (pe_ix (r := rIxL K) ix_list (pe_ix (r := rIxL K) ix_list (pv 1) (pe_call T.F (hr.mono (by decide)) (by rfl) T.g T.kp T.b .nil pass0 (pa_cons (pv 0) (pa_cons (pe_callB (r := rLenS K) call_len_seq (by rfl) N.len PySem.boot_len (pa_cons (pv 1) pa_nil)) pa_nil))) (fun _ _ => rfl)) pe_int (fun _ _ => rfl)) (pg_sub (pe_ix (r := rIxL K) ix_list (pv 1) (pv 3) (fun _ _ => rfl)) pe_int set_list))) (pss_one (ps_if (pt_cmpR op_eq (pv 2) pe_int (nomark _)) (pss_one (ps_asg (pe_lc (own := [("k", 5)]) (g := gName 5) rfl scSq.nd (pi_range1 (by rfl) M.range (pa_cons pe_int pa_nil)) (blkOk_by (own := [("k", 5)]) (N := ["draws", "signs", "way", "at", "unknown", "k", "place", "name"]) (sc := defScope (topS 26)) (by decide +kernel)) (fun _ _ _ _ _ => pg_name (i := 5) scSq.nd rfl (.inl rfl) (hf := .inr rfl)) (fun _ _ _ _ _ => pts_nil) (fun _ _ _ _ _ => (pe_ix (r := rIxL K) ix_list (pe_ix (r := rIxL K) ix_list (pv 1) (pv 3) (fun _ _ => rfl)) pe_int (fun _ _ => rfl)))) (pg_sub (pe_ix (r := rIxL K) ix_list (pv 1) (pv 3) (fun _ _ => rfl)) pe_int set_list))) (pss_one (ps_if (pt_cmpR op_eq (pv 2) pe_int (nomark _)) (pss_cons (ps_asg (pe_call T.F (hr.mono (by decide)) (by rfl) T.g T.kp T.b .nil pass0 (pa_cons (pv 0) (pa_cons (pe_op op_add (pe_callB (r := rLenS K) call_len_seq (by rfl) N.len PySem.boot_len (pa_cons (pe_ix (r := rIxL K) ix_list (pe_ix (r := rIxL K) ix_list (pv 1) (pv 3) (fun _ _ => rfl)) pe_int (fun _ _ => rfl)) pa_nil)) pe_int) pa_nil))) (pg_name (i := 6) scSq.nd rfl (.inl rfl))) (pss_one (ps_asg (pe_op (r := rCat) op_cat (pe_op (r := rCat) op_cat (pe_slice (r := rSlL K) sl_list (pe_ix (r := rIxL K) ix_list (pe_ix (r := rIxL K) ix_list (pv 1) (pv 3) (fun _ _ => rfl)) pe_int (fun _ _ => rfl)) po_none (po_some (pv 6))) (pe_lst (pa_cons (pv 4) pa_nil))) (pe_slice (r := rSlL K) sl_list (pe_ix (r := rIxL K) ix_list (pe_ix (r := rIxL K) ix_list (pv 1) (pv 3) (fun _ _ => rfl)) pe_int (fun _ _ => rfl)) (po_some (pe_op op_add (pv 6) pe_int)) po_none)) (pg_sub (pe_ix (r := rIxL K) ix_list (pv 1) (pv 3) (fun _ _ => rfl)) pe_int set_list)))) (pss_one (ps_if (pt_cmpR op_eq (pv 2) pe_int (nomark _)) (pss_one (ps_asg (pv 4) (pg_sub (pe_ix (r := rIxL K) ix_list (pv 1) (pv 3) (fun _ _ => rfl)) pe_int set_list))) (pss_one (ps_for PassesOwn.never rfl (pi_list (pe_slice (r := rSlL K) sl_list (pe_call NS.F (hr.mono (by decide)) (by rfl) NS.g NS.kp NS.b .nil pass0 (pa_cons (pv 0) (pa_cons pe_int pa_nil))) (po_some (pe_callB (r := rLenS K) call_len_seq (by rfl) N.len PySem.boot_len (pa_cons (pv 1) pa_nil))) po_none)) (pg_name (i := 7) scSq.nd rfl (.inl rfl)) (pss_one (ps_expr (pe_bm PySem.F.plainAttrs_list PySem.F.slot_list_append PySem.F.type_list_append mt_append (pv 1) (pa_cons (pe_lst (pa_cons (pv 7) (pa_cons (pe_lst pa_nil) (pa_cons (pe_ix (r := rIxL K) ix_list (pe_ix (r := rIxL K) ix_list (pv 1) pe_int (fun _ _ => rfl)) pe_int (fun _ _ => rfl)) pa_nil)))) pa_nil)))))))))))))))))), ?_⟩
    have s0 := Sd.of hd
    obtain ⟨ads0, hcl0, hcn0, _⟩ := hS.rows
    refine gq_asg (eg_takeN (m := (signs.length : Int)) (ev_var rfl) (ev_is (ev_len (xs := ads0.map V.ref) (ev_var rfl) (sq_of hcl0)) (by rw [List.length_map, hcn0])) (by omega)) s0 fun v B0 H0 e0 s0 r => ?_
    obtain ⟨n1, rfl, hn1⟩ := r
    have hS0 := hS.mono e0
    obtain ⟨g0, er0⟩ : ∃ r, signs[0]? = some r := ⟨_, List.getElem?_eq_getElem (by omega)⟩
    have hg0 := hz g0 (List.mem_of_getElem? er0)
    refine gq_asg (eg_menuP (ws := [Str.ofString "noSort", Str.ofString "", Str.ofString "q7", g0.1, Str.ofString "P"]) (el_lst (ea_cons ev_c (ea_cons ev_c (ea_cons ev_c (ea_cons (ev_sgn0 (k := 0) hS0.rows er0 (ev_var rfl) ev_c) (ea_cons ev_c ea_nil))))) (by simp)) (n := 5) (by decide) (by simp) (fun x hx => ?_) (fun _ => ev_var rfl)) s0 fun v B1 H1 e1 s1 r => ?_
    · simp only [List.mem_cons, List.not_mem_nil, or_false] at hx
      rcases hx with rfl | rfl | rfl | rfl | rfl
      · show _ ≤ 200; decide
      · show _ ≤ 200; decide
      · show _ ≤ 200; decide
      · exact hg0.1
      · show _ ≤ 200; decide
    obtain ⟨un, rfl, hun⟩ := r
    have e01 := e0.trans e1
    have hS1 := hS0.mono e1
    obtain ⟨g1, er1⟩ : ∃ r, signs[n1]? = some r := ⟨_, List.getElem?_eq_getElem (by omega)⟩
    have hg1 := hz g1 (List.mem_of_getElem? er1)
    obtain ⟨ads, p1, q1, hcl, ep1, fp1, npc, fq1, nqc, hp1, hq1⟩ := hS1.row er1
    have at1 : ∀ {G : Hp} {σ : L2.St}, Ex B1 G → σ[1]? = some (some (.ref c)) → σ[3]? = some (some (.int (n1 : Int))) → Ev (tOp (rIxL K) (tVar 1) (tVar 3)) σ G (.ref p1) := fun e h1 h3 => ev_op (ev_var h1) (ev_var h3) (rv_ixL (sq_of (e _ _ hcl)) (atI_nat (by rw [List.getElem?_map, ep1]; rfl)))
    have px1 : ∀ {G : Hp}, Ex B1 G → ∃ q0 x z0, G p1 = some (.lst [.str x, .ref q0, .str z0]) := fun e => ⟨_, _, _, e _ _ hp1⟩
    have mm : g1.2.1.length ≤ m + 1 := by have := hg1.2.1; omega
    cases c0 : decide (V.int way = V.int 6) with
    | true =>
      refine g_ifP (b := true) (et_is (et_test (ev_op (ev_var rfl) ev_c (rv_eq rfl))) c0) s1 (fun _ H2 s2 => ?_) (fun z => by cases z)
      refine g_setRow (m := 0) (xs := [.str g1.1, .ref q1, .str g1.2.2]) (eg_menu (ws := [(Str.ofString ""), (Str.ofString "9a"), (Str.ofString "Imp"), (Str.ofString "a_b"), (Str.ofString "a b"), (repS (Str.ofString "x") 25), (Str.ofString "p\n"), (Str.ofString "P0")]) (el_lst (ea_cons ev_c (ea_cons ev_c (ea_cons ev_c (ea_cons ev_c (ea_cons ev_c (ea_cons (ev_op ev_c ev_c (rv_repS (n := 25) (by decide) (by decide) (by decide))) (ea_cons ev_c (ea_cons ev_c ea_nil)))))))) (by simp)) (n := 8) (by decide) (by decide) (by decide) (fun _ => ev_var rfl)) (fun B2 e2 => at1 e2 rfl rfl) (fun _ => ev_c) (by simp) hp1 s2 fun v B3 H3 e3 hv s3 => ?_
      obtain ⟨x, rfl, hx⟩ := hv
      obtain ⟨signs', z1, z2, z3⟩ := (hS1.mono e3).set (n := x) (z := g1.2.2) (as := g1.2.1) (x0 := .non) (l0 := []) npc (px1 e3) fq1 nqc (e3 _ _ hq1)
      exact k _ H3 signs' F (((ExF.of e01).ex e3).upd fp1) s3 z1 (fun p hp => .inl hp) (by omega) (by omega) (hz.set hx mm hg1.2.2 z3)
    | false =>
      refine g_ifP (b := false) (et_is (et_test (ev_op (ev_var rfl) ev_c (rv_eq rfl))) c0) s1 (fun z => by cases z) (fun _ H1 s1 => ?_)
      cases c1 : decide (V.int way = V.int 7) with
      | true =>
        refine g_ifP (b := true) (et_is (et_test (ev_op (ev_var rfl) ev_c (rv_eq rfl))) c1) s1 (fun _ H2 s2 => ?_) (fun z => by cases z)
        refine g_setRow (m := 0) (xs := [.str g1.1, .ref q1, .str g1.2.2]) (eg_sgnc (v := fun r => .str r.1) sgn_c0 hS1.rows h1 (fun _ => ev_var rfl) (fun _ => ev_var rfl)) (fun B2 e2 => at1 e2 rfl rfl) (fun _ => ev_c) (by simp) hp1 s2 fun v B3 H3 e3 hv s3 => ?_
        obtain ⟨rr, hrr, rfl⟩ := hv
        have hx : Sh rr.1 := (hz rr hrr).1
        generalize rr.1 = x at hx s3
        obtain ⟨signs', z1, z2, z3⟩ := (hS1.mono e3).set (n := x) (z := g1.2.2) (as := g1.2.1) (x0 := .non) (l0 := []) npc (px1 e3) fq1 nqc (e3 _ _ hq1)
        exact k _ H3 signs' F (((ExF.of e01).ex e3).upd fp1) s3 z1 (fun p hp => .inl hp) (by omega) (by omega) (hz.set hx mm hg1.2.2 z3)
      | false =>
        refine g_ifP (b := false) (et_is (et_test (ev_op (ev_var rfl) ev_c (rv_eq rfl))) c1) s1 (fun z => by cases z) (fun _ H1 s1 => ?_)
        cases c2 : decide (V.int way = V.int 8) with
        | true =>
          refine g_ifP (b := true) (et_is (et_test (ev_op (ev_var rfl) ev_c (rv_eq rfl))) c2) s1 (fun _ H2 s2 => ?_) (fun z => by cases z)
          refine s_setRowL (m := 1) (xs := [.str g1.1, .ref q1, .str g1.2.2]) (ys := (List.replicate 5 g1.2.2).map V.str) (el_lcRM (List.replicate 5 g1.2.2) V.str (ea_cons ev_c ea_nil) (by simp) (fun _ => rfl) fun i r B2 e2 hi => ?_) (fun B2 e2 => at1 e2 rfl rfl) (fun _ => ev_c) (by simp) hp1 s2 fun q B3 H3 nq e3 hq3 s3 => ?_
          · have : r = g1.2.2 := List.eq_of_mem_replicate (List.mem_of_getElem? hi)
            rw [this]
            exact ev_op (at1 e2 rfl rfl) ev_c (rv_ixL (sq_of (e2 _ _ hp1)) (atI_nat (j := 2) rfl))
          obtain ⟨F', hF'⟩ : ∃ F' : Addr → Prop, F' = fun p => F p ∨ (hide H d) p = none := ⟨_, rfl⟩
          have nq0 : (hide H d) q = none := fresh_back e01 nq
          have nqc2 : q ≠ c := fun z => by rw [z, hcl] at nq; cases nq
          obtain ⟨signs', z1, z2, z3⟩ := ((hS1.mono e3).wide (F' := F') fun p hp => by rw [hF']; exact .inl hp).set (n := g1.1) (z := g1.2.2) (as := List.replicate 5 g1.2.2) (x0 := .non) (l0 := []) npc (px1 e3) (by rw [hF']; exact .inr nq0) nqc2 hq3
          exact k _ H3 signs' F' (((ExF.of e01).ex e3).upd fp1) s3 z1 (fun p hp => by rw [hF'] at hp; exact hp) (by omega) (by omega) (hz.set hg1.1 (by simp; omega) hg1.2.2 z3)
        | false =>
          refine g_ifP (b := false) (et_is (et_test (ev_op (ev_var rfl) ev_c (rv_eq rfl))) c2) s1 (fun z => by cases z) (fun _ H1 s1 => ?_)
          cases c3 : decide (V.int way = V.int 9) with
          | true =>
            refine g_ifP (b := true) (et_is (et_test (ev_op (ev_var rfl) ev_c (rv_eq rfl))) c3) s1 (fun _ H2 s2 => ?_) (fun z => by cases z)
            have a1 : ∀ {G : Hp} {σ : L2.St}, Ex B1 G → σ[1]? = some (some (.ref c)) → σ[3]? = some (some (.int (n1 : Int))) → Ev (tOp (rIxL K) (tOp (rIxL K) (tVar 1) (tVar 3)) (tC (.int 1))) σ G (.ref q1) := fun e h1 h3 => ev_op (at1 e h1 h3) ev_c (rv_ixL (sq_of (e _ _ hp1)) (atI_nat (j := 1) rfl))
            refine gq_asg (eg_takeN (m := (g1.2.1.length : Int) + 1) (ev_var rfl) (ev_op (ev_is (ev_len (a1 (Ex.refl _) rfl rfl) (sq_of hq1)) (by rw [List.length_map])) ev_c rv_I0) (by omega)) s2 fun v B2 H2 e2 s2 r => ?_
            obtain ⟨pl, rfl, hpl⟩ := r
            have hq2 := e2 _ _ hq1
            have lq : (g1.2.1.map V.str).length = g1.2.1.length := List.length_map _
            refine s_setRowL (m := 1) (xs := [.str g1.1, .ref q1, .str g1.2.2]) (ys := (g1.2.1.take pl ++ [un] ++ g1.2.1.drop (pl + 1)).map V.str) ?_ (fun B3 e3 => at1 (e2.trans e3) rfl rfl) (fun _ => ev_c) (by simp) (e2 _ _ hp1) s2 fun q B3 H3 nq e3 hq3 s3 => ?_
            · rw [List.map_append, List.map_append, List.map_take, List.map_drop]
              refine el_catN (el_catN ?_ (el_lst (ea_cons (ev_var rfl) ea_nil) (by simp)) (by simp; omega)) ?_ (by simp; omega)
              · rw [← cutV_take (k := pl) (by omega)]
                exact el_sl (a1 e2 rfl rfl) eo_none (eo_some (ev_var rfl)) (sq_of hq2)
              · rw [← cutV_drop]
                exact el_sl (a1 e2 rfl rfl) (eo_some (ev_is (ev_op (ev_var rfl) ev_c rv_I0) (by simp))) eo_none (sq_of hq2)
            have nq := fresh_back e2 nq
            have e3 := e2.trans e3
            obtain ⟨F', hF'⟩ : ∃ F' : Addr → Prop, F' = fun p => F p ∨ (hide H d) p = none := ⟨_, rfl⟩
            have nq0 : (hide H d) q = none := fresh_back e01 nq
            have nqc2 : q ≠ c := fun z => by rw [z, hcl] at nq; cases nq
            obtain ⟨signs', z1, z2, z3⟩ := ((hS1.mono e3).wide (F' := F') fun p hp => by rw [hF']; exact .inl hp).set (n := g1.1) (z := g1.2.2) (as := g1.2.1.take pl ++ [un] ++ g1.2.1.drop (pl + 1)) (x0 := .non) (l0 := []) npc (px1 e3) (by rw [hF']; exact .inr nq0) nqc2 hq3
            exact k _ H3 signs' F' (((ExF.of e01).ex e3).upd fp1) s3 z1 (fun p hp => by rw [hF'] at hp; exact hp) (by omega) (by omega) (hz.set hg1.1 (by have := hg1.2.1; simp; omega) hg1.2.2 z3)
          | false =>
            refine g_ifP (b := false) (et_is (et_test (ev_op (ev_var rfl) ev_c (rv_eq rfl))) c3) s1 (fun z => by cases z) (fun _ H1 s1 => ?_)
            cases c4 : decide (V.int way = V.int 10) with
            | true =>
              refine g_ifP (b := true) (et_is (et_test (ev_op (ev_var rfl) ev_c (rv_eq rfl))) c4) s1 (fun _ H2 s2 => ?_) (fun z => by cases z)
              refine g_setRow (m := 2) (xs := [.str g1.1, .ref q1, .str g1.2.2]) (Pv := fun v => v = .str un) (eg_ev (ev_var rfl)) (fun B2 e2 => at1 e2 rfl rfl) (fun _ => ev_c) (by simp) hp1 s2 fun v B3 H3 e3 hv s3 => ?_
              subst hv
              obtain ⟨signs', z1, z2, z3⟩ := (hS1.mono e3).set (n := g1.1) (z := un) (as := g1.2.1) (x0 := .non) (l0 := []) npc (px1 e3) fq1 nqc (e3 _ _ hq1)
              exact k _ H3 signs' F (((ExF.of e01).ex e3).upd fp1) s3 z1 (fun p hp => .inl hp) (by omega) (by omega) (hz.set hg1.1 mm hun z3)
            | false =>
              refine g_ifP (b := false) (et_is (et_test (ev_op (ev_var rfl) ev_c (rv_eq rfl))) c4) s1 (fun z => by cases z) (fun _ H1 s1 => ?_)
              have lenE : ∀ {G : Hp} {σ : L2.St}, Ex B1 G → σ[1]? = some (some (.ref c)) → Ev (tCB (rLenS K) (tCons (tVar 1) tNil)) σ G (.int (signs.length : Int)) := fun e h => ev_is (ev_len (xs := ads.map V.ref) (ev_var h) (sq_of (e _ _ hcl))) (by
                obtain ⟨ads', z1, z2, _⟩ := hS1.rs
                rw [hcl] at z1
                have : ads.map V.ref = ads'.map V.ref := HO.lst.inj (Option.some.inj z1)
                rw [this, List.length_map, z2])
              have hit : EvG (tSl (rSlL K) (tCall spNames [] E0 (tCons (tVar 0) (tCons (tC (.int 13)) tNil))) (tPart (tCB (rLenS K) (tCons (tVar 1) tNil))) tNoPart) [some (.ref d), some (.ref c), some (.int way), some (.int n1), some (.str un), none, none, none] B1 d fun u B' => ∃ p, ∃ ss : List Str, u = .ref p ∧ B1 p = none ∧ B' p = some (.lst (ss.map V.str)) ∧ ss.length + signs.length = 13 ∧ ∀ x ∈ ss, Sh x := fun Hx sx Qx qx => by
                refine eg_callP (rest := [.int 13]) (ea_cons (ev_var rfl) (ea_cons ev_c ea_nil)) (fun _ _ => ⟨13, rfl, by decide⟩) Hx sx _ fun v B3 H3 e3 s3 r => ?_
                obtain ⟨Bh, eh1, eh2, b9, s9, rfl, nb9, hb9, hl9, hz9⟩ := r
                have l9 : s9.length = 13 := by
                  have := V.int.inj (List.cons.inj hl9).1
                  omega
                refine lenE e3 rfl H3 s3.ex _ fun H4 e4 => ⟨_, rfl, b9, s9.map V.str, rfl, sq_of ((s3.mono e4).ex _ _ hb9), fun p hp => ?_⟩
                have s4 := s3.mono e4
                have np3 : B3 p = none := fresh_back s4.ex hp
                rw [cutV_drop, ← List.map_drop]
                refine qx (.ref p) (L2.upd B3 p (.lst ((s9.drop signs.length).map V.str))) _ (e3.trans (Ex.new np3)) ((s4.mono (Ex.new hp)).known (s4.ne hp) upd_same) ⟨p, _, rfl, fresh_back e3 np3, upd_same, by rw [List.length_drop, l9]; omega, fun x hx => hz9 x (List.mem_of_mem_drop hx)⟩
              obtain ⟨F', hF'⟩ : ∃ F' : Addr → Prop, F' = fun p => F p ∨ (hide H d) p = none := ⟨_, rfl⟩
              refine hit H1 s1 _ fun v B3 H3 e3 s3 r => ?_
              obtain ⟨pl, us, rfl, npl, hpl, hul, hus⟩ := r
              have hS3 : GF F' B3 c signs := (hS1.mono e3).wide fun p hp => by rw [hF']; exact .inl hp
              have nplc : pl ≠ c := fun z => by rw [z, hcl] at npl; cases npl
              refine ⟨pl, rfl, ⟨us.map V.str, sq_of (s3.ex _ _ hpl)⟩, for_it (D := { nx := _, rt := _ }) (walk_list (K := K) (a := pl) (xs := us.map V.str)) (fun i σ' H' => ∃ (B4 : Hp) (gs : List Sgn) (u7 : Option V), σ' = [some (.ref d), some (.ref c), some (.int way), some (.int n1), some (.str un), none, none, u7] ∧ ExF F (hide H d) B4 ∧ Sd B4 d H' ∧ B4 pl = some (.lst (us.map V.str)) ∧ GF F' B4 c gs ∧ gs.length = signs.length + i ∧ SzG (m + 1) gs ∧ gs[0]? = some g0 ∧ ∃ xs, B4 c = some (.lst xs))
                ⟨B3, signs, none, rfl, (ExF.of e01).ex e3, s3, hpl, hS3, rfl, fun g hg => ⟨(hz g hg).1, by have := (hz g hg).2.1; omega, (hz g hg).2.2⟩, er0, _, e3 _ _ hcl⟩ (fun i σ' H' _ p => ?_) (fun i x σ' H4 H5 hi p y => ?_) (fun σ' H4 p => ?_)⟩
              · obtain ⟨B4, gs, u7, _, _, s4, h4, _⟩ := p
                exact sq_of (s4.ex _ _ h4)
              · obtain ⟨rfl, hx⟩ := y
                obtain ⟨B4, gs, u7, rfl, x4, s4, h4, hS4, hl4, hz4, hg4, _⟩ := p
                rw [List.length_map] at hi
                rw [List.getElem?_map] at hx
                cases ex : us[i]? with
                | none => rw [ex] at hx; cases hx
                | some nm =>
                  rw [ex] at hx
                  obtain rfl : V.str nm = x := Option.some.inj hx
                  obtain ⟨ads4, hc4, hn4, _⟩ := id hS4.rs
                  have hrow : EvN (tLst (tCons (tVar 7) (tCons (tLst tNil) (tCons (tOp (rIxL K) (tOp (rIxL K) (tVar 1) (tC (.int 0))) (tC (.int 2))) tNil)))) [some (.ref d), some (.ref c), some (.int way), some (.int n1), some (.str un), none, none, some (.str nm)] B4 (FrL B4 fun us G => ∃ q, us = [.str nm, .ref q, .str g0.2.2] ∧ B4 q = none ∧ G q = some (.lst [])) :=
                    en_lstF (fun us G G' h e => by
                      obtain ⟨q, w1, w2, w3⟩ := h
                      exact ⟨q, w1, w2, e _ _ w3⟩) ((ena_consV (ev_var rfl) (ena_cons (Rr := fun _ us _ => us = [.str g0.2.2]) (Rw := fun us G => ∃ q, us = [.ref q, .str g0.2.2] ∧ B4 q = none ∧ G q = some (.lst [])) (en_elF (el_lst ea_nil (by decide))) (fun v G e r => ena_ev (ea_cons (ev_sgn2 (k := 0) (sgnsAt_mono hS4.rows e) hg4 (ev_var rfl) ev_c) ea_nil)) fun v us G G' r e r' => by
                        obtain ⟨q, ys, rfl, w1, w2, rfl⟩ := r
                        exact ⟨q, by rw [r'], w1, e _ _ w2⟩)).imp fun us G _ h => by
                      obtain ⟨r, rfl, q, rfl, h⟩ := h
                      exact ⟨q, rfl, h⟩) fun us G h => by
                      obtain ⟨q, rfl, _⟩ := h
                      simp
                  refine g_app (l := c) (xs := ads4.map V.ref) hc4 (fun _ => ev_var rfl) (eg_new hrow) (by rw [List.length_map, hn4, hl4]; omega) s4 fun v B5 H5 e5 r s5 => ?_
                  obtain ⟨p, us2, rfl, np, hp5, q, rfl, nq, hq5⟩ := r
                  have npc2 : p ≠ c := fun z => by rw [z, hc4] at np; cases np
                  have nqc2 : q ≠ c := fun z => by rw [z, hc4] at nq; cases nq
                  have fr : ∀ p, B4 p = none → F' p := fun p np => by
                    rw [hF']
                    by_cases hf : F p
                    · exact .inl hf
                    · right
                      cases z : (hide H d) p with
                      | none => rfl
                      | some o => rw [x4 p o hf z] at np; cases np
                  have hS5 := hS4.mono e5
                  have hfr : FSgn F' (hide B5 c) p (nm, [], g0.2.2) := ⟨fr p np, q, fr q nq, by rw [hide_ne npc2]; exact hp5, by rw [hide_ne nqc2]; exact hq5⟩
                  refine ⟨_, gs ++ [(nm, [], g0.2.2)], _, rfl, (x4.ex e5).upd hS.fc, s5, by rw [upd_ne nplc]; exact e5 _ _ h4, ⟨hS5.fc, hS5.rs.app (e5 _ _ hc4) hfr⟩, by rw [List.length_append, hl4]; rfl, fun g hg => ?_, by rw [List.getElem?_append_left (by omega)]; exact hg4, _, upd_same⟩
                  rcases List.mem_append.mp hg with z | z
                  · exact hz4 g z
                  · rw [List.mem_singleton.mp z]
                    exact ⟨hus nm (List.mem_of_getElem? ex), Nat.zero_le _, hg0.2.2⟩
              · obtain ⟨B4, gs, u7, rfl, x4, s4, h4, hS4, hl4, hz4, hg4, _⟩ := p
                rw [List.length_map] at hl4
                exact k B4 H4 gs F' x4 s4 hS4 (fun p hp => by rw [hF'] at hp; exact hp) (by omega) (by omega) hz4
end
end K01
-- E29
namespace K01
open PySem PySem.Spec PyProof.Rows L2 Evl KEv TL KDd KSq KSame KTxt KHot KSup KNew KRvT KD KTry
/-! _law_words, _law_words_told -/
section
variable {X : Cx} {o : Expr} {to : TE} {apos pos : Pos}
def rLowS : V → List V → Hp → VK → Prop := fun x xs H Q => ∃ a, x = .str a ∧ xs = [] ∧ a.length ≤ 5592405 ∧ Q (.str (Txt.lower a)) H
theorem pe_lowerS (ho : PE X o to) (hbase : attributeBase o "lower" X.env (eval o X.env) = eval o X.env := by rfl) (hline : (apos.endLine == pos.line) = true := by rfl) : PE X (.Call (.Attribute o "lower" apos) [] [] pos) (tM0 rLowS to) := pe_lower ho hbase hline
end
section
variable {P : Program} {w : World} {K : PySem.W.Frag} {mg : Str → Option Value} {base : Heap} {σ : L2.St} {H B : Hp} {d : Addr} {C : Addr}
theorem ev_low {to : TE} {x : Str} (h : Ev to σ H (.str x)) (hx : x.length ≤ 1000000) : Ev (tM0 rLowS to) σ H (.str (Txt.lower x)) := fun H1 e Q q => h H1 e _ fun H2 e2 => ⟨⟨x, rfl⟩, x, rfl, rfl, by omega, q H2 e2⟩
/-- a list of texts -/
def Txs (m1 m n : Nat) (v : V) (B : Hp) : Prop := ∃ p, ∃ ws : List Str, v = .ref p ∧ B p = some (.lst (ws.map V.str)) ∧ m1 ≤ ws.length ∧ ws.length ≤ m ∧ ∀ w ∈ ws, w.length ≤ n
theorem Txs.mono {m1 m n : Nat} {v : V} {B' : Hp} (h : Txs m1 m n v B) (e : Ex B B') : Txs m1 m n v B' := by
  obtain ⟨p, ws, z1, z2, z3⟩ := h
  exact ⟨p, ws, z1, e _ _ z2, z3⟩
def TxA (k n : Nat) (us : List V) : Prop := us.length = k ∧ ∀ v ∈ us, ∃ x : Str, v = .str x ∧ x.length ≤ n
variable {te ta tb : TE} {tr : TA} {n : Nat}
theorem ega_tx0 : EvGA tNil σ B d fun us _ => TxA 0 n us := ega_sd ega_nil fun us B' _ z => by
  rw [z.1]
  exact ⟨rfl, fun v hv => by cases hv⟩
theorem ega_txV {k : Nat} {x : Str} (h : Ev te σ B (.str x)) (hx : x.length ≤ n) (hr : EvGA tr σ B d fun us _ => TxA k n us) : EvGA (tCons te tr) σ B d fun us _ => TxA (k + 1) n us := ega_sd (ega_consV h hr) fun us B' _ z => by
  obtain ⟨r, rfl, h1, h2⟩ := z
  exact ⟨by rw [List.length_cons, h1], fun v hv => (List.mem_cons.mp hv).elim (fun z => ⟨x, z, hx⟩) (h2 v)⟩
theorem ega_txG {k : Nat} (h : EvG te σ B d fun v _ => ∃ x : Str, v = .str x ∧ x.length ≤ n) (hr : ∀ B1, Ex B B1 → EvGA tr σ B1 d fun us _ => TxA k n us) : EvGA (tCons te tr) σ B d fun us _ => TxA (k + 1) n us :=
  ega_cons (Rr := fun _ us _ => TxA k n us) h (fun v B1 e _ => hr B1 e) fun v us B1 B2 _ hv _ hu => by
    exact ⟨by rw [List.length_cons, hu.1], fun w hw => (List.mem_cons.mp hw).elim (fun z => z ▸ hv) (hu.2 w)⟩
theorem eg_lstT {k : Nat} (h : EvGA tr σ B d fun us _ => TxA k n us) (hk : k ≤ 100000) : EvG (tLst tr) σ B d (Txs k k n) := EvG.sd (eg_lst h fun us B' z => by rw [z.1]; exact hk) fun v B' r => by
  obtain ⟨p, us, B1, rfl, _, _, _, rfl, hu⟩ := r
  obtain ⟨ws, rfl, hw⟩ := strs_of hu.2
  have := hu.1
  rw [List.length_map] at this
  exact ⟨p, ws, rfl, upd_same, by omega, by omega, hw⟩
theorem eg_catT {a1 m1 a2 m2 : Nat} (ha : EvG ta σ B d (Txs a1 m1 n)) (hb : ∀ B1, Ex B B1 → EvG tb σ B1 d (Txs a2 m2 n)) (hm : m1 + m2 ≤ 100000) : EvG (tOp rCat ta tb) σ B d (Txs (a1 + a2) (m1 + m2) n) := fun H s Q q =>
  ha H s _ fun v B1 H1 e1 s1 r1 => hb B1 e1 H1 s1 _ fun u B2 H2 e2 s2 r2 => by
    obtain ⟨p, ws, rfl, h1, z1, z2, z3⟩ := r1
    obtain ⟨p', ws', rfl, h1', z1', z2', z3'⟩ := r2
    refine ⟨p, p', _, _, rfl, rfl, s2.ex _ _ (e2 _ _ h1), s2.ex _ _ h1', by rw [List.length_map, List.length_map]; exact sz_of (by omega), fun l hl => ?_⟩
    have nb : B2 l = none := fresh_back s2.ex hl
    refine q (.ref l) (L2.upd B2 l (.lst (ws.map V.str ++ ws'.map V.str))) _ ((e1.trans e2).trans (Ex.new nb)) ((s2.mono (Ex.new hl)).known (s2.ne hl) upd_same) ⟨l, ws ++ ws', rfl, by rw [upd_same, List.map_append], by rw [List.length_append]; omega, by rw [List.length_append]; omega, fun w hw => ?_⟩
    rcases List.mem_append.mp hw with z | z
    · exact z3 w z
    · exact z3' w z
theorem eg_txL {a m : Nat} {ws : List Str} (h : EvL te σ B (ws.map V.str)) (h1 : a ≤ ws.length) (h2 : ws.length ≤ m) (h3 : ∀ w ∈ ws, w.length ≤ n) : EvG te σ B d (Txs a m n) := EvG.sd (eg_liftL h) fun v B' r => by
  obtain ⟨p, rfl, _, _, rfl⟩ := r
  exact ⟨p, ws, rfl, upd_same, h1, h2, h3⟩
theorem repS_len (a : Str) (n : Nat) : (repS a n).length = a.length * n := by
  rw [len_tl]
  show (tl (repS a n)).length = _
  unfold repS tl
  simp [Str.length, Nat.mul_comm]
theorem Txs.wide {a1 m1 a2 m2 n : Nat} {v : V} (h : Txs a1 m1 n v B) (ha : a2 ≤ a1) (hm : m1 ≤ m2) : Txs a2 m2 n v B := by
  obtain ⟨p, ws, z1, z2, z3, z4, z5⟩ := h
  exact ⟨p, ws, z1, z2, by omega, by omega, z5⟩
/-- a list of texts that stands -/
theorem eg_txS {a m : Nat} {p : Addr} {ws : List Str} (h : Ev te σ B (.ref p)) (hp : B p = some (.lst (ws.map V.str))) (h1 : a ≤ ws.length) (h2 : ws.length ≤ m) (h3 : ∀ w ∈ ws, w.length ≤ n) : EvG te σ B d (Txs a m n) := EvG.pure h ⟨p, ws, rfl, hp, h1, h2, h3⟩
def spWords : Sp := spGen (fun rest H1 => ∃ (b c : Addr) (sorts : List Row) (signs : List Sgn), rest = [.ref b, .ref c] ∧ RowsAt RowAt H1 b sorts ∧ RowsAt SgnAt H1 c signs ∧ GoodS sorts signs) (fun _ v B => Txs 1 60 400 v B)
/-- [row[0] for row in sorts + signs] -/
theorem el_names {tb tc : TE} {b c : Addr} {sorts : List Row} {signs : List Sgn} {j : Nat} {vs : List Nat} (hb : RowsAt RowAt H b sorts) (hc : RowsAt SgnAt H c signs) (h1 : Ev tb σ H (.ref b)) (h2 : Ev tc σ H (.ref c)) (z1 : sorts.length ≤ 1000) (z2 : signs.length ≤ 1000) (hw : ∀ x, wipe ((wipe σ vs).set j (some x)) vs = wipe σ vs) (hj : ∀ x, ((wipe σ vs).set j (some x))[j]? = some (some x)) :
    EvL (tLc (iList K (tOp rCat tb tc)) (gName j) tYes (tOp (rIxL K) (tVar j) (tC (.int 0))) vs) σ H ((sorts.map (·.1) ++ signs.map (·.1)).map V.str) := by
  obtain ⟨ads, hbl, hbn, hrow⟩ := hb
  obtain ⟨gds, hcl, hcn, hsgn⟩ := hc
  have hcat : EvL (tOp rCat tb tc) σ H (ads.map V.ref ++ gds.map V.ref) := fun H1 e Q q =>
    h1 H1 e _ fun H2 e2 => h2 H2 (e.trans e2) _ fun H3 e3 => ⟨b, c, _, _, rfl, rfl, e3 _ _ (e2 _ _ (e _ _ hbl)), e3 _ _ (e2 _ _ (e _ _ hcl)), by rw [List.length_map, List.length_map]; exact sz_of (by omega), fun l hl => q l _ (fresh_back (e2.trans e3) hl) ((e2.trans e3).trans (Ex.new hl)) upd_same⟩
  refine el_lcNM (sorts.map (·.1) ++ signs.map (·.1)) V.str hcat (by simp [hbn, hcn]) (by simp; omega) hw fun i x s0 H6 e6 hx hs => ?_
  have : ∃ p rest, x = .ref p ∧ H p = some (.lst (.str s0 :: rest)) := by
    by_cases hi : i < sorts.length
    · rw [List.getElem?_append_left (by rw [List.length_map, hbn]; exact hi)] at hx
      rw [List.getElem?_append_left (by rw [List.length_map]; exact hi), List.getElem?_map] at hs
      obtain ⟨r, er⟩ : ∃ r, sorts[i]? = some r := ⟨_, List.getElem?_eq_getElem hi⟩
      rw [er] at hs
      obtain ⟨p, rfl, hp⟩ := ads_at hrow hx er
      obtain rfl : r.1 = s0 := Option.some.inj hs
      exact ⟨p, _, rfl, hp⟩
    · rw [List.getElem?_append_right (by rw [List.length_map, hbn]; omega), List.length_map, hbn] at hx
      rw [List.getElem?_append_right (by rw [List.length_map]; omega), List.length_map, List.getElem?_map] at hs
      obtain ⟨g, er⟩ : ∃ g, signs[i - sorts.length]? = some g := ⟨_, List.getElem?_eq_getElem (by have := (List.getElem?_eq_some_iff.mp hx).1; rw [List.length_map] at this; omega)⟩
      rw [er] at hs
      obtain ⟨p, rfl, q, hp, _⟩ := ads_at hsgn hx er
      obtain rfl : g.1 = s0 := Option.some.inj hs
      exact ⟨p, _, rfl, hp⟩
  obtain ⟨p, rest, rfl, hp⟩ := this
  exact ev_op (ev_var (hj _)) ev_c (rv_ixL (sq_of (e6 _ _ hp)) (atI_nat (j := 0) rfl))
theorem scW1 : FnScope ["draws", "sorts", "signs", "capital", "words", "row"] ["draws", "sorts", "signs"] (defScope (topS 36)) := ⟨rfl, rfl, rfl, by decide +kernel, rfl, by decide +kernel, by decide +kernel⟩
theorem cap_one {sorts : List Row} {signs : List Sgn} (hG : GoodS sorts signs) {r : Row} (hr : r ∈ sorts) : r.2.length = 1 := by
  have := (hG.row r hr).2
  unfold capB at this
  rw [Bool.and_eq_true, decide_eq_true_eq] at this
  rw [len_tl]
  exact this.1
theorem ok_words {f ft : Addr} {fd fdt : FuncData} (D : DefAt K mg 36 "_law_words" ["draws", "sorts", "signs"] f fd) (T : TakeAt P w K mg base ft fdt) (N : Nm mg) (M : NmS mg) : FnOk P w K mg base CX0 2 f fd ["draws", "sorts", "signs"] spWords := by
  refine D.F.ok scW1 (fun vs H Q E h => ?_) (fun cdv A outer s H vs Q E hr h => ?_)
  · obtain ⟨d, rest, rfl, _, ⟨b, c, sorts, signs, rfl, _⟩, _⟩ := h
    rfl
  · obtain ⟨d, rest, rfl, hd, ⟨b, c, sorts, signs, rfl, hb, hc, hG⟩, k⟩ := h
    refine ⟨_, (pss_cons (ps_asg (pe_ix (r := rIxL K) ix_list (pe_ix (r := rIxL K) ix_list (pv 1) (pe_call T.F (hr.mono (by decide)) (by rfl) T.g T.kp T.b .nil pass0 (pa_cons (pv 0) (pa_cons (pe_callB (r := rLenS K) call_len_seq (by rfl) N.len PySem.boot_len (pa_cons (pv 1) pa_nil)) pa_nil))) (fun _ _ => rfl)) pe_int (fun _ _ => rfl)) (pg_name (i := 3) scW1.nd rfl (.inl rfl))) (pss_cons (ps_asg (pe_lst (pa_cons (pe_op op_addS (pv 3) pe_str) (pa_cons (pe_op op_addS (pv 3) pe_str) (pa_cons (pv 3) (pa_cons (pe_op op_addS (pv 3) (pe_op op_repS pe_str pe_int)) (pa_cons (pe_op op_addS (pv 3) (pe_op op_repS pe_str pe_int)) (pa_cons (pe_op op_addS (pv 3) pe_str) (pa_cons pe_str (pa_cons pe_str pa_nil))))))))) (pg_name (i := 4) scW1.nd rfl (.inl rfl))) (pss_cons (ps_asg (pe_op (r := rCat) op_cat (pv 4) (pe_lst (pa_cons (pe_op op_addS (pv 3) (pe_op op_repS pe_str (pe_op op_add pe_int (pe_call T.F (hr.mono (by decide)) (by rfl) T.g T.kp T.b .nil pass0 (pa_cons (pv 0) (pa_cons pe_int pa_nil)))))) (pa_cons (pe_op op_addS (pe_lowerS (pv 3)) pe_str) (pa_cons pe_str (pa_cons pe_str (pa_cons pe_str pa_nil))))))) (pg_name (i := 4) scW1.nd rfl (.inl rfl))) (pss_one (ps_ret (pe_op (r := rCat) op_cat (pv 4) (pe_lc (own := [("row", 5)]) (g := gName 5) rfl scW1.nd (pi_list (pe_op (r := rCat) op_cat (pv 1) (pv 2))) (blkOk_by (own := [("row", 5)]) (N := ["draws", "sorts", "signs", "capital", "words", "row"]) (sc := defScope (topS 36)) (by decide +kernel)) (fun _ _ _ _ _ => pg_name (i := 5) scW1.nd rfl (.inl rfl) (hf := .inr rfl)) (fun _ _ _ _ _ => pts_nil) (fun _ _ _ _ _ => (pe_ix (r := rIxL K) ix_list (pv 5) pe_int (fun _ _ => rfl)))))))))), ?_⟩
    have s0 := Sd.of hd
    have z8 := hG.s8
    have z12 := hG.g12
    refine gq_asg (eg_rowc (v := fun r => .str r.2) row_c1 hb hG.s1 (fun _ => ev_var rfl) (fun _ => ev_var rfl)) s0 fun v B1 H1 e1 s1 r => ?_
    obtain ⟨r0, hr0, rfl⟩ := r
    have hcap := cap_one hG hr0
    generalize r0.2 = cap at hcap s1
    have cat : ∀ {G : Hp} {σ : L2.St} {y : Str}, σ[3]? = some (some (.str cap)) → y.length ≤ 1000 → Ev (tOp rAddS (tVar 3) (tC (.str y))) σ G (.str (cap ++ y)) := fun h hy => ev_op (ev_var h) ev_c (rv_addS (by omega))
    have cl : ∀ y : Str, (cap ++ y).length = 1 + y.length := fun y => by rw [len_app, hcap]
    have rep : ∀ {G : Hp} {σ : L2.St} {y : Str} {n : Nat}, σ[3]? = some (some (.str cap)) → 1 ≤ n → n ≤ 500 → y.length = 1 → Ev (tOp rAddS (tVar 3) (tOp rRepS (tC (.str y)) (tC (.int (n : Int))))) σ G (.str (cap ++ repS y n)) := fun h h1 h2 hy => ev_op (ev_var h) (ev_op ev_c ev_c (rv_repS h1 (by omega) (by omega))) (rv_addS (by rw [hcap, repS_len, hy]; omega))
    have rl : ∀ (y : Str) (n : Nat), y.length = 1 → (cap ++ repS y n).length = 1 + n := fun y n hy => by rw [cl, repS_len, hy, Nat.one_mul]
    refine gq_asg (R := Txs 8 8 400) (eg_lstT (ega_txV (cat rfl (by decide)) (by rw [cl]; decide) (ega_txV (cat rfl (by decide)) (by rw [cl]; decide) (ega_txV (ev_var rfl) (by omega) (ega_txV (rep (n := 9) rfl (by decide) (by decide) (by decide)) (by rw [rl _ _ (by decide)]; decide) (ega_txV (rep (n := 10) rfl (by decide) (by decide) (by decide)) (by rw [rl _ _ (by decide)]; decide) (ega_txV (cat rfl (by decide)) (by rw [cl]; decide) (ega_txV ev_c (by decide) (ega_txV ev_c (by decide) ega_tx0)))))))) (by decide)) s1 fun v B2 H2 e2 s2 r => ?_
    obtain ⟨p2, ws2, rfl, hp2, l1, l2, hw2⟩ := r
    have hlow : (Txt.lower cap).length ≤ 3 := by
      have := PyProof.Rows.len_lower cap
      omega
    refine gq_asg (R := Txs 13 13 400) (eg_catT (eg_txS (ev_var rfl) hp2 l1 l2 hw2) (fun B3 e3 => eg_lstT (ega_txG (eg_opV (ev_var rfl) (eg_opV (R := fun v _ => ∃ y : Str, v = .str y ∧ y.length ≤ 302) ev_c (eg_opV (R := fun v _ => ∃ n : Nat, v = .int (n : Int) ∧ 1 ≤ n ∧ n ≤ 302) ev_c (eg_takeN (m := 2) (ev_var rfl) ev_c (by decide)) fun y B4 _ hy => ?_) fun y B4 _ hy => ?_) fun y B4 _ hy => ?_) fun B4 e4 => ega_txV (ev_op (ev_low (ev_var rfl) (by omega)) ev_c (rv_addS (by show _ + 1 ≤ _; omega))) (by rw [len_app]; show _ + 1 ≤ _; omega) (ega_txV ev_c (by decide) (ega_txV ev_c (by decide) (ega_txV ev_c (by decide) ega_tx0)))) (by decide)) (by decide)) s2 fun v B3 H3 e3 s3 r => ?_
    · obtain ⟨n, rfl, hn⟩ := hy
      exact ⟨_, rv_I0, 300 + n, by rw [Int.natCast_add]; rfl, by omega, by omega⟩
    · obtain ⟨n, rfl, h1, h2⟩ := hy
      exact ⟨_, rv_repS h1 (by omega) (by decide), _, rfl, by rw [repS_len]; show 1 * n ≤ _; omega⟩
    · obtain ⟨y, rfl, hy⟩ := hy
      exact ⟨_, rv_addS (by omega), _, rfl, by rw [cl]; omega⟩
    obtain ⟨p3, ws3, rfl, hp3, l31, l32, hw3⟩ := r
    have e03 := (e1.trans e2).trans e3
    refine g_ret (R := Txs 13 33 400) (eg_catT (eg_txS (ev_var rfl) hp3 l31 l32 hw3) (fun B4 e4 => eg_txL (ws := sorts.map (·.1) ++ signs.map (·.1)) (a := 0) (m := 20) (el_names (rowsAt_mono hb (e03.trans e4)) (sgnsAt_mono hc (e03.trans e4)) (ev_var rfl) (ev_var rfl) (by omega) (by omega) (fun _ => rfl) (fun _ => rfl)) (Nat.zero_le _) (by simp; omega) fun x hx => ?_) (by decide)) s3 fun v B4 H4 e4 s4 r => k v B4 H4 (e03.trans e4) s4 (r.wide (by decide) (by decide))
    rcases List.mem_append.mp hx with z | z
    · obtain ⟨r, hr, rfl⟩ := List.mem_map.mp z
      have := (name_len (hG.row r hr).1).2
      omega
    · obtain ⟨g, hg, rfl⟩ := List.mem_map.mp z
      have := (name_len (hG.sgn g hg).1).2
      omega
def spWordsTold (C : Addr) : Sp := spGen (fun rest H1 => ∃ (a b c : Addr) (sorts : List Row) (signs : List Sgn), rest = [.ref a, .ref b, .ref c] ∧ MadeAt C H1 a sorts signs ∧ RowsAt RowAt H1 b sorts ∧ RowsAt SgnAt H1 c signs ∧ GoodS sorts signs) (fun _ v _ => v = .bl true)
theorem ev_sow2 {G : Hp} {a : Addr} {x : Str} {m : Int} {E : XK} {ta tw tn : TE} {sorts : List Row} {signs : List Sgn} {pc ps pa pr : Addr} {sg : List (Sgn × Addr)} (hS : SigAt C G a sorts signs pc ps pa pr sg) (ha : Ev ta σ G (.ref a)) (hw : Ev tw σ G (.str x)) (hn : Ev tn σ G (.int m)) (hl : x.length ≤ 100000) :
    Ev (tMeth C "sort_of_word" (spSortW C) [] E ta (tCons tw (tCons tn tNil))) σ G (oV (wordSort sorts signs x m)) := fun H1 e Q q =>
  ha H1 e _ fun H2 e2 => by
    obtain ⟨dx, fs, h1, h2⟩ := hS.no
    refine ⟨a, dx, fs, rfl, e2 _ _ (e _ _ h1), h2 _ (by decide), hw H2 (e.trans e2) _ fun H3 e3 => hn H3 ((e.trans e2).trans e3) _ fun H4 e4 => ?_⟩
    have e14 := ((e.trans e2).trans e3).trans e4
    refine ⟨a, x, m, ps, pr, sorts, sg, rfl, (hS.at_.ex e14).sub (by simp), e14 _ _ hS.ps, e14 _ _ hS.pr, hl, fun H5 e5 => ?_⟩
    rw [hS.es]
    exact q H5 (((e2.trans e3).trans e4).trans e5)
theorem ev_sow3 {G : Hp} {a : Addr} {x : Str} {m : Int} {E : XK} {ta tw tn : TE} {sorts : List Row} {signs : List Sgn} {pc ps pa pr : Addr} {sg : List (Sgn × Addr)} (hS : SigAt C G a sorts signs pc ps pa pr sg) (ha : Ev ta σ G (.ref a)) (hw : Ev tw σ G (.str x)) (hn : Ev tn σ G (.int m)) (hl : x.length ≤ 100000) :
    Ev (tMethKw C "sort_of_word" 2 1 (spSortW C) (fun vs zs => vs ++ zs) E ta (tCons tw tNil) (tCons tn tNil)) σ G (oV (wordSort sorts signs x m)) := fun H1 e Q q =>
  ha H1 e _ fun H2 e2 => by
    obtain ⟨dx, fs, h1, h2⟩ := hS.no
    refine ⟨a, dx, fs, rfl, e2 _ _ (e _ _ h1), h2 _ (by decide), hw H2 (e.trans e2) _ fun H3 e3 => hn H3 ((e.trans e2).trans e3) _ fun H4 e4 => ⟨rfl, rfl, ?_⟩⟩
    have e14 := ((e.trans e2).trans e3).trans e4
    refine ⟨a, x, m, ps, pr, sorts, sg, rfl, (hS.at_.ex e14).sub (by simp), e14 _ _ hS.ps, e14 _ _ hS.pr, hl, fun H5 e5 => ?_⟩
    rw [hS.es]
    exact q H5 (((e2.trans e3).trans e4).trans e5)
theorem scW2 : FnScope ["draws", "made", "sorts", "signs", "word", "many"] ["draws", "made", "sorts", "signs"] (defScope (topS 37)) := ⟨rfl, rfl, rfl, by decide +kernel, rfl, by decide +kernel, by decide +kernel⟩
theorem ok_wt {f ft fw fs fo f1 : Addr} {fd fdt fdw fds fdo fd1 : FuncData} {ds1 : List Value} (D : DefAt K mg 37 "_law_words_told" ["draws", "made", "sorts", "signs"] f fd) (S : SigC K C) (T : TakeAt P w K mg base ft fdt) (WO : GenAt P w K mg base 2 "_law_words" ["draws", "sorts", "signs"] spWords fw fdw) (SM : GenAt P w K mg base 5 "_law_same" ["told", "due"] (spSame 4) fs fds) (SO : GenAt P w K mg base 2 "_law_sort" ["sorts", "signs", "word", "many"] spSort fo fdo) (N : Nm mg) (M : NmS mg)
    (m1 : Meth K C "sort_of_word" f1) (F1 : FnOk P w K mg base CX0 2 f1 fd1 ["self", "word", "digits"] (spSortW C)) (b1 : Binds K fd1 ["self", "word", "digits"] ds1) (v1 : Vals [.int 9] ds1) (b2 : Binds K fd1 ["self", "word", "digits"] []) (kb3 : KBn K fd1 ["self", "word", "digits"] 2 ["digits"] (fun us ws => us ++ ws) (fun vs zs => vs ++ zs)) : FnOk P w K mg base CX0 6 f fd ["draws", "made", "sorts", "signs"] (spWordsTold C) := by
  have m2 := m1
  have F2 := F1
  have m3 := m1
  have F3 := F1
  have v2 : Vals [] [] := .nil
  refine D.F.ok scW2 (fun vs H Q E h => ?_) (fun cdv A outer s H vs Q E hr h => ?_)
  · obtain ⟨d, rest, rfl, _, ⟨a, b, c, sorts, signs, rfl, _⟩, _⟩ := h
    rfl
  · obtain ⟨d, rest, rfl, hd, ⟨a, b, c, sorts, signs, rfl, hM, hb, hc, hG⟩, k⟩ := h
    refine ⟨_, (pss_cons (ps_for PassesOwn.never rfl (pi_list (pe_call WO.F (hr.mono (by decide)) (by rfl) WO.g WO.kp WO.b .nil pass0 (pa_cons (pv 0) (pa_cons (pv 2) (pa_cons (pv 3) pa_nil))))) (pg_name (i := 4) scW2.nd rfl (.inl rfl)) (pss_cons (ps_if (pt_not (pt_val (pe_call SM.F (hr.mono (by decide)) (by rfl) SM.g SM.kp SM.b .nil pass0 (pa_cons (pe_meth (pv 1) S.cl m1 F1 (hr.mono (by decide)) b1 v1 pass0 (pa_cons (pv 4) pa_nil)) (pa_cons (pe_call SO.F (hr.mono (by decide)) (by rfl) SO.g SO.kp SO.b .nil pass0 (pa_cons (pv 2) (pa_cons (pv 3) (pa_cons (pv 4) (pa_cons pe_int pa_nil))))) pa_nil))))) (pss_one (ps_ret pe_bl)) pss_nil) (pss_cons (ps_asg (pe_ix (r := rIxL K) ix_list (pe_lst (pa_cons pe_int (pa_cons pe_int (pa_cons (pe_op op_add pe_int (pe_call T.F (hr.mono (by decide)) (by rfl) T.g T.kp T.b .nil pass0 (pa_cons (pv 0) (pa_cons pe_int pa_nil)))) pa_nil)))) (pe_call T.F (hr.mono (by decide)) (by rfl) T.g T.kp T.b .nil pass0 (pa_cons (pv 0) (pa_cons pe_int pa_nil))) (fun _ _ => rfl)) (pg_name (i := 5) scW2.nd rfl (.inl rfl))) (pss_cons (ps_if (pt_not (pt_val (pe_call SM.F (hr.mono (by decide)) (by rfl) SM.g SM.kp SM.b .nil pass0 (pa_cons (pe_meth (pv 1) S.cl m2 F2 (hr.mono (by decide)) b2 v2 pass0 (pa_cons (pv 4) (pa_cons (pv 5) pa_nil))) (pa_cons (pe_call SO.F (hr.mono (by decide)) (by rfl) SO.g SO.kp SO.b .nil pass0 (pa_cons (pv 2) (pa_cons (pv 3) (pa_cons (pv 4) (pa_cons (pv 5) pa_nil))))) pa_nil))))) (pss_one (ps_ret pe_bl)) pss_nil) (pss_cons (ps_asg (pe_op op_add pe_int (pe_call T.F (hr.mono (by decide)) (by rfl) T.g T.kp T.b .nil pass0 (pa_cons (pv 0) (pa_cons pe_int pa_nil)))) (pg_name (i := 5) scW2.nd rfl (.inl rfl))) (pss_one (ps_if (pt_not (pt_val (pe_call SM.F (hr.mono (by decide)) (by rfl) SM.g SM.kp SM.b .nil pass0 (pa_cons (pe_methKw (pv 1) S.cl m3 F3 (hr.mono (by decide)) kb3 pass0 (pa_cons (pv 4) pa_nil) (pk_cons (pv 5) pk_nil)) (pa_cons (pe_call SO.F (hr.mono (by decide)) (by rfl) SO.g SO.kp SO.b .nil pass0 (pa_cons (pv 2) (pa_cons (pv 3) (pa_cons (pv 4) (pa_cons (pv 5) pa_nil))))) pa_nil))))) (pss_one (ps_ret pe_bl)) pss_nil))))))) (pss_one (ps_ret pe_bl))), ?_⟩
    have s0 := Sd.of hd
    have hcapB : ∀ r ∈ sorts, capB (tl r.2) = true := fun r hr => (hG.row r hr).2
    have hit : EvG (tCall spWords [] E0 (tCons (tVar 0) (tCons (tVar 2) (tCons (tVar 3) tNil)))) [some (.ref d), some (.ref a), some (.ref b), some (.ref c), none, none] (hide H d) d (Txs 1 60 400) :=
      eg_call (ega_lift (ea_cons (ev_var rfl) (ea_cons (ev_var rfl) (ea_cons (ev_var rfl) ea_nil)))) (fun us B1 H1 _ h e => ⟨[.ref b, .ref c], h.1, b, c, sorts, signs, rfl, rowsAt_mono hb (h.2 ▸ e), sgnsAt_mono hc (h.2 ▸ e), hG⟩) fun rest B1 B2 v _ _ _ h => h
    refine hit H s0 _ fun v B1 H1 e1 s1 r => ?_
    obtain ⟨pl, us, rfl, hpl, _, _, hus⟩ := r
    refine ⟨pl, rfl, ⟨us.map V.str, sq_of (s1.ex _ _ hpl)⟩, for_it (D := { nx := _, rt := Q }) (walk_list (K := K) (a := pl) (xs := us.map V.str)) (fun i σ' H' => ∃ (B2 : Hp) (u4 u5 : Option V), σ' = [some (.ref d), some (.ref a), some (.ref b), some (.ref c), u4, u5] ∧ Ex B1 B2 ∧ Sd B2 d H') ⟨B1, _, _, rfl, Ex.refl _, s1⟩ (fun i σ' H' _ p => ?_) (fun i x σ' H2 H3 hi p y => ?_) (fun σ' H2 p => ?_)⟩
    · obtain ⟨B2, _, _, _, e2, s2⟩ := p
      exact sq_of (s2.ex _ _ (e2 _ _ hpl))
    · obtain ⟨rfl, hx⟩ := y
      obtain ⟨B2, u4, u5, rfl, e2, s2⟩ := p
      rw [List.getElem?_map] at hx
      cases ex : us[i]? with
      | none => rw [ex] at hx; cases hx
      | some wd =>
        rw [ex] at hx
        obtain rfl : V.str wd = x := Option.some.inj hx
        have hwl : wd.length ≤ 400 := hus wd (List.mem_of_getElem? ex)
        have e02 := e1.trans e2
        have law : ∀ {G : Hp} {σ : L2.St} {tn : TE} {n : Int}, Ex B2 G → σ[2]? = some (some (.ref b)) → σ[3]? = some (some (.ref c)) → σ[4]? = some (some (.str wd)) → Ev tn σ G (.int n) → Ev (tCall spSort [] E0 (tCons (tVar 2) (tCons (tVar 3) (tCons (tVar 4) (tCons tn tNil))))) σ G (oV (wordSort sorts signs wd n)) := fun e h2 h3 h4 hn =>
          ev_sort (rowsAt_mono hb (e02.trans e)) (sgnsAt_mono hc (e02.trans e)) hcapB (ev_var h2) (ev_var h3) (ev_var h4) hn (by omega)
        have fl : ∀ n, flatS (oV (wordSort sorts signs wd n)) = true := fun n => by cases wordSort sorts signs wd n <;> rfl
        obtain ⟨pc, ps, pa, pr, sg, hS0⟩ := made_sig (hM.mono e02)
        refine gq_when (b := false) (et_is (et_not (et_B (ev_sameF (n := 4) (fl 9) (ev_sow hS0 (ev_var rfl) (ev_var rfl) (by omega)) fun G e => law e rfl rfl rfl ev_c))) rfl) s2 (fun z => by cases z) (fun _ H4 s4 => ?_)
        refine gq_asg (R := fun v _ => ∃ n : Int, v = .int n) (eg_itemN (n := 3) (Pv := fun v => ∃ n : Int, v = .int n) (EvG.sd (eg_lst (Rs := fun us _ => us.length = 3 ∧ ∀ v ∈ us, ∃ n : Int, v = .int n) (ega_sd (ega_consV ev_c (ega_consV ev_c (ega_one (eg_opV (R := fun v _ => ∃ n : Int, v = .int n) ev_c (eg_takeN (m := 12) (ev_var rfl) ev_c (by decide)) fun y B3 _ hy => ?_)))) fun us B3 _ h => ?_) fun us B3 h => by rw [h.1]; decide) fun v B3 r => ?_) fun B3 => eg_takeN (ev_var rfl) ev_c (by decide)) s4 fun v B3 H5 e3 s5 r => ?_
        · obtain ⟨n, rfl, _⟩ := hy
          exact ⟨_, rv_I0, _, rfl⟩
        · obtain ⟨_, rfl, _, rfl, v, rfl, n, rfl⟩ := h
          refine ⟨rfl, fun v hv => ?_⟩
          simp only [List.mem_cons, List.not_mem_nil, or_false] at hv
          rcases hv with rfl | rfl | rfl
          · exact ⟨_, rfl⟩
          · exact ⟨_, rfl⟩
          · exact ⟨_, rfl⟩
        · obtain ⟨p, us3, B4, rfl, _, _, _, rfl, h1, h2⟩ := r
          exact ⟨p, us3, rfl, upd_same, by rw [h1]; decide, h2⟩
        · obtain ⟨n2, rfl⟩ := r
          refine gq_when (b := false) (et_is (et_not (et_B (ev_sameF (n := 4) (fl n2) (ev_sow2 (hS0.mono e3) (ev_var rfl) (ev_var rfl) (ev_var rfl) (by omega)) fun G e => law (e3.trans e) rfl rfl rfl (ev_var rfl)))) rfl) s5 (fun z => by cases z) (fun _ H6 s6 => ?_)
          refine gq_asg (R := fun v _ => ∃ n : Int, v = .int n) (eg_opV ev_c (eg_takeN (m := 10) (ev_var rfl) ev_c (by decide)) fun y B4 _ hy => ?_) s6 fun v B4 H7 e4 s7 r => ?_
          · obtain ⟨n, rfl, _⟩ := hy
            exact ⟨_, rv_I0, _, rfl⟩
          · obtain ⟨n3, rfl⟩ := r
            have e34 := e3.trans e4
            refine s_when (b := false) (et_is (et_not (et_B (ev_sameF (n := 4) (fl n3) (ev_sow3 (hS0.mono e34) (ev_var rfl) (ev_var rfl) (ev_var rfl) (by omega)) fun G e => law (e34.trans e) rfl rfl rfl (ev_var rfl)))) rfl |>.mono s7.ex) (fun z => by cases z) (fun _ H8 e8 => ?_)
            exact ⟨B4, _, _, rfl, e2.trans e34, s7.mono e8⟩
    · obtain ⟨B2, u4, u5, rfl, e2, s2⟩ := p
      show tRet (tC (V.bl true)) { nx := fun _ H9 => Q .non H9, rt := Q } [some (.ref d), some (.ref a), some (.ref b), some (.ref c), u4, u5] H2
      exact s_ret ev_c fun H3 e3 => k _ B2 H3 (e1.trans e2) (s2.mono e3) rfl
end
end K01
-- E30
namespace K01
open PySem PySem.Spec PyProof.Rows L2 Evl KEv TL KDd KSq KSame KTxt KHot KSup KNew KRvT KD KTry
/-! _law_term -/
section
variable {P : Program} {w : World} {K : PySem.W.Frag} {mg : Str → Option Value} {base : Heap} {σ : L2.St} {H B : Hp} {d : Addr} {C : Addr}
structure NmR (mg : Str → Option Value) : Prop where
  reversed : mg "reversed" = none
def spTerm : Sp := spGen (fun rest H1 => ∃ (b c : Addr) (sorts : List Row) (signs : List Sgn) (kind : Str) (budget : Nat), rest = [.ref b, .ref c, .str kind, .int (budget : Int)] ∧ RowsAt RowAt H1 b sorts ∧ RowsAt SgnAt H1 c signs ∧ GoodS sorts signs ∧ kind ∈ sorts.map (·.1) ∧ budget ≤ 30) (fun _ v B => Txs 0 30 400 v B)
theorem eg_cb1 {te : TE} {R R' : V → Hp → Prop} {r : List V → Hp → VK → Prop} (h : EvG te σ B d R) (hr : ∀ v B', R v B' → ∃ z, RC r [v] B' z ∧ R' z B') : EvG (tCB r (tCons te tNil)) σ B d R' := fun H s Q q => h H s _ fun v B' H' e s' rv => by
  obtain ⟨z, hz, rz⟩ := hr v B' rv
  exact hz H' s'.ex Q fun H2 e2 => q z B' H2 e (s'.mono e2) rz
theorem num_len {n : Nat} (h : n < 10 ^ 18) : (toString (n : Int) : Str).length ≤ 18 := by
  rw [show (toString (n : Int) : Str) = Str.ofString (toString (n : Int)) from rfl, len_tl, tl_num]
  exact numL_len (by decide) h
theorem zip_at {α β : Type} {l : List α} {m : List β} {i : Nat} {a : α} {b : β} (h1 : l[i]? = some a) (h2 : m[i]? = some b) : (l.zip m)[i]? = some (a, b) := by
  rw [List.getElem?_zip_eq_some]
  exact ⟨h1, h2⟩
theorem scTm : FnScope ["draws", "sorts", "signs", "kind", "budget", "words", "due", "k", "here", "room", "sign", "fitting", "argument", "row", "capital"] ["draws", "sorts", "signs", "kind", "budget"] (defScope (topS 38)) := ⟨rfl, rfl, rfl, by decide +kernel, rfl, by decide +kernel, by decide +kernel⟩
theorem ok_term {f ft : Addr} {fd fdt : FuncData} (D : DefAt K mg 38 "_law_term" ["draws", "sorts", "signs", "kind", "budget"] f fd) (T : TakeAt P w K mg base ft fdt) (N : Nm mg) (M' : NmS mg) (MR : NmR mg) : FnOk P w K mg base CX0 2 f fd ["draws", "sorts", "signs", "kind", "budget"] spTerm := by
  refine D.F.ok scTm (fun vs H Q E h => ?_) (fun cdv A outer s H vs Q E hr h => ?_)
  · obtain ⟨d, rest, rfl, _, ⟨b, c, sorts, signs, kind, budget, rfl, _⟩, _⟩ := h
    rfl
  · obtain ⟨d, rest, rfl, hd, ⟨b, c, sorts, signs, kind, budget, rfl, hb, hc, hG, hk, hbud⟩, k⟩ := h
    refine ⟨_, (pss_cons (ps_asg (pe_lst pa_nil) (pg_name (i := 5) scTm.nd rfl (.inl rfl))) (pss_cons (ps_asg (pe_lst (pa_cons (pv 3) pa_nil)) (pg_name (i := 6) scTm.nd rfl (.inl rfl))) (pss_cons (ps_for PassesOwn.never rfl (pi_range1 (by rfl) M'.range (pa_cons (pv 4) pa_nil)) (pg_name (i := 7) scTm.nd rfl (.inl rfl)) (pss_cons (ps_if (pt_not (pt_tru (pv 6))) (pss_one ps_break) pss_nil) (pss_cons (ps_asg (pe_bm0 PySem.F.plainAttrs_list PySem.F.slot_list_pop PySem.F.type_list_pop mt_pop (pv 6)) (pg_name (i := 8) scTm.nd rfl (.inr rfl))) (pss_cons (ps_asg (pe_op op_sub (pe_op op_sub (pe_op op_sub (pv 4) (pe_callB (r := rLenS K) call_len_seq (by rfl) N.len PySem.boot_len (pa_cons (pv 5) pa_nil))) (pe_callB (r := rLenS K) call_len_seq (by rfl) N.len PySem.boot_len (pa_cons (pv 6) pa_nil))) pe_int) (pg_name (i := 9) scTm.nd rfl (.inr rfl))) (pss_cons (ps_setLc (i := 11) (own := [("sign", 10)]) (g := gName 10) rfl scTm.nd rfl rfl (sw_true rfl rfl rfl (by decide +kernel)) (pi_list (pv 2)) (blkOk_by (own := [("sign", 10)]) (N := ["draws", "sorts", "signs", "kind", "budget", "words", "due", "k", "here", "room", "sign", "fitting", "argument", "row", "capital"]) (sc := defScope (topS 38)) (by decide +kernel)) (fun _ _ _ _ _ => pg_name (i := 10) scTm.nd rfl (.inl rfl) (hf := .inr rfl)) (fun _ _ _ _ _ => pts_one (PW.pt (pw_and (pt_cmpR op_eq (pe_ix (r := rIxL K) ix_list (pv 10) pe_int (fun _ _ => rfl)) (pv 8) (nomark _)) (pw_and1 (pt_cmpR op_le (pe_callB (r := rLenS K) call_len_seq (by rfl) N.len PySem.boot_len (pa_cons (pe_ix (r := rIxL K) ix_list (pv 10) pe_int (fun _ _ => rfl)) pa_nil)) (pv 9) (nomark _)))))) (fun _ _ _ _ _ => (pv 10))) (pss_one (ps_if (PW.pt (pw_and (pt_tru (pv 11)) (pw_and1 (pt_cmpR op_lt (pe_call T.F (hr.mono (by decide)) (by rfl) T.g T.kp T.b .nil pass0 (pa_cons (pv 0) (pa_cons pe_int pa_nil))) pe_int (nomark _))))) (pss_cons (ps_asg (pe_ix (r := rIxL K) ix_list (pv 11) (pe_call T.F (hr.mono (by decide)) (by rfl) T.g T.kp T.b .nil pass0 (pa_cons (pv 0) (pa_cons (pe_callB (r := rLenS K) call_len_seq (by rfl) N.len PySem.boot_len (pa_cons (pv 11) pa_nil)) pa_nil))) (fun _ _ => rfl)) (pg_name (i := 10) scTm.nd rfl (.inl rfl))) (pss_cons (ps_expr (pe_bm PySem.F.plainAttrs_list PySem.F.slot_list_append PySem.F.type_list_append mt_append (pv 5) (pa_cons (pe_ix (r := rIxL K) ix_list (pv 10) pe_int (fun _ _ => rfl)) pa_nil))) (pss_one (ps_for PassesOwn.never rfl (pi_reversed (by rfl) MR.reversed (pa_cons (pe_ix (r := rIxL K) ix_list (pv 10) pe_int (fun _ _ => rfl)) pa_nil)) (pg_name (i := 12) scTm.nd rfl (.inl rfl)) (pss_one (ps_expr (pe_bm PySem.F.plainAttrs_list PySem.F.slot_list_append PySem.F.type_list_append mt_append (pv 6) (pa_cons (pv 12) pa_nil)))))))) (pss_cons (ps_asg (pe_ix (r := rIxL K) ix_list (pe_lc (own := [("row", 13)]) (g := gName 13) rfl scTm.nd (pi_list (pv 1)) (blkOk_by (own := [("row", 13)]) (N := ["draws", "sorts", "signs", "kind", "budget", "words", "due", "k", "here", "room", "sign", "fitting", "argument", "row", "capital"]) (sc := defScope (topS 38)) (by decide +kernel)) (fun _ _ _ _ _ => pg_name (i := 13) scTm.nd rfl (.inl rfl) (hf := .inr rfl)) (fun _ _ _ _ _ => pts_one (pt_cmpR op_eq (pe_ix (r := rIxL K) ix_list (pv 13) pe_int (fun _ _ => rfl)) (pv 8) (nomark _))) (fun _ _ _ _ _ => (pe_ix (r := rIxL K) ix_list (pv 13) pe_int (fun _ _ => rfl)))) pe_int (fun _ _ => rfl)) (pg_name (i := 14) scTm.nd rfl (.inl rfl))) (pss_one (ps_expr (pe_bm PySem.F.plainAttrs_list PySem.F.slot_list_append PySem.F.type_list_append mt_append (pv 5) (pa_cons (pe_op op_addS (pv 14) (pe_callTy call_strI (by rfl) M'.str (by decide +kernel) (pa_cons (pe_ix (r := rIxL K) ix_list (pe_lst (pa_cons pe_int (pa_cons pe_int (pa_cons pe_int (pa_cons pe_int (pa_cons pe_int pa_nil)))))) (pe_call T.F (hr.mono (by decide)) (by rfl) T.g T.kp T.b .nil pass0 (pa_cons (pv 0) (pa_cons pe_int pa_nil))) (fun _ _ => rfl)) pa_nil))) pa_nil)))))))))))) (pss_one (ps_ret (pv 5)))))), ?_⟩
    have s0 := Sd.of hd
    have z8 := hG.s8
    have z12 := hG.g12
    obtain ⟨ads, hbl, hbn, hrow⟩ := id hb
    obtain ⟨gds, hcl, hcn, hsgn⟩ := id hc
    refine q_asgL (el_lst ea_nil (by decide)) fun pw H1 npw e1 h1 => ?_
    have nw0 : (hide H d) pw = none := fresh_back hide_ex npw
    have s1 : Sd (L2.upd (hide H d) pw (.lst [])) d H1 := (s0.mono e1).known (s0.ne npw) h1
    refine q_asgL (el_lst (ea_cons (ev_var rfl) ea_nil) (by simp)) fun pd H2 npd e2 h2 => ?_
    have nd1 : (L2.upd (hide H d) pw (.lst [])) pd = none := fresh_back s1.ex npd
    have hwd : pw ≠ pd := fun z => by rw [← z, upd_same] at nd1; cases nd1
    have nd0 : (hide H d) pd = none := by rw [upd_ne (Ne.symm hwd)] at nd1; exact nd1
    have s2 : Sd (L2.upd (L2.upd (hide H d) pw (.lst [])) pd (.lst [.str kind])) d H2 := (s1.mono e2).known (s1.ne npd) h2
    refine g_range (j := 7) (n := budget) (d := d) (B := L2.upd (L2.upd (hide H d) pw (.lst [])) pd (.lst [.str kind])) (ea_cons (ev_var rfl) ea_nil) s2 (by omega) (fun i σ' H' => ∃ (B3 : Hp) (ws ds : List Str) (u7 u8 u9 u10 u11 u12 u14 : Option V), σ' = [some (.ref d), some (.ref b), some (.ref c), some (.str kind), some (.int budget), some (.ref pw), some (.ref pd), u7, u8, u9, u10, u11, u12, none, u14] ∧ Ex (hide H d) B3 ∧ Sd B3 d H' ∧ B3 pw = some (.lst (ws.map V.str)) ∧ B3 pd = some (.lst (ds.map V.str)) ∧ ws.length ≤ i ∧ (∀ w ∈ ws, w.length ≤ 400) ∧ (∀ x ∈ ds, x ∈ sorts.map (·.1)) ∧ ds.length ≤ 1 + 4 * i)
      (fun H3 s3 => ⟨_, [], [kind], _, _, _, _, _, _, _, rfl, (Ex.new nw0).trans (Ex.new nd1), s3, by rw [upd_ne hwd, upd_same]; rfl, by rw [upd_same]; rfl, Nat.le_refl _, (fun w hw => by cases hw), (fun x hx => by rw [List.mem_singleton.mp hx]; exact hk), by simp⟩) (fun i σ' H3 hi q => ?_) (fun σ' H3 q => ?_)
    · obtain ⟨B3, ws, ds, u7, u8, u9, u10, u11, u12, u14, rfl, e3, s3, hw3, hd3, lw, hws, hds, ld⟩ := q
      rcases List.eq_nil_or_concat ds with rfl | ⟨ds', here, rfl⟩
      · refine gq_when (b := true) (et_is (et_not (et_truL (xs := []) (ev_var rfl) (sq_of hd3))) rfl) s3 (fun _ H4 s4 => ?_) (fun z => by cases z)
        show tRet (tVar 5) { nx := fun _ H9 => Q .non H9, rt := Q } [some (.ref d), some (.ref b), some (.ref c), some (.str kind), some (.int budget), some (.ref pw), some (.ref pd), some (.int i), u8, u9, u10, u11, u12, none, u14] H4
        exact s_ret (ev_var rfl) fun H5 e5 => k _ B3 H5 e3 (s4.mono e5) ⟨pw, ws, rfl, hw3, Nat.zero_le _, by omega, hws⟩
      · rw [List.concat_eq_append] at hd3 hds ld
        rw [List.map_append] at hd3
        have hd3 : B3 pd = some (.lst (ds'.map V.str ++ [V.str here])) := hd3
        rw [List.length_append, List.length_singleton] at ld
        have hhere : here ∈ sorts.map (·.1) := hds here (by simp)
        have hds' : ∀ x ∈ ds', x ∈ sorts.map (·.1) := fun x hx => hds x (by simp [hx])
        refine gq_when (b := false) (et_is (et_not (et_truL (ev_var rfl) (sq_of hd3))) (by simp)) s3 (fun z => by cases z) (fun _ H4 s4 => ?_)
        refine q_pop (v := .str here) (ev_var rfl) (s4.ex _ _ hd3) (by simp) fun H5 e5 => ?_
        rw [List.dropLast_concat]
        have s5 : Sd (L2.upd B3 pd (.lst (ds'.map V.str))) d (L2.upd H5 pd (.lst (ds'.map V.str))) := (s4.mono e5).change hd3
        have e4 : Ex (hide H d) (L2.upd B3 pd (.lst (ds'.map V.str))) := e3.mut nd0
        have hw4 : (L2.upd B3 pd (.lst (ds'.map V.str))) pw = some (.lst (ws.map V.str)) := by rw [upd_ne hwd]; exact hw3
        have hd4 : (L2.upd B3 pd (.lst (ds'.map V.str))) pd = some (.lst (ds'.map V.str)) := upd_same
        generalize (L2.upd B3 pd (.lst (ds'.map V.str))) = B4 at s5 e4 hw4 hd4
        generalize (L2.upd H5 pd (.lst (ds'.map V.str))) = H6 at s5
        refine gq_asg (eg_ev (ev_op (ev_op (ev_op (ev_var rfl) (ev_len (ev_var rfl) (sq_of hw4)) rv_I0) (ev_len (ev_var rfl) (sq_of hd4)) rv_I0) ev_c rv_I0)) s5 fun v B5 H7 e5 s7 r => ?_
        subst r
        generalize ((budget : Int) - ((ws.map V.str).length : Int) - ((ds'.map V.str).length : Int) - 1) = room at s7
        have e05 := e4.trans e5
        have hc5 := e05 _ _ hcl
        have hsg : ∀ {G : Hp} {i : Nat} {x : V} {r : Addr × Sgn}, Ex B5 G → (gds.map V.ref)[i]? = some x → (gds.zip signs)[i]? = some r → x = .ref r.1 ∧ SgnAt G r.1 r.2 := fun {G i x r} e hx hr => by
          obtain ⟨z1, z2⟩ := List.getElem?_zip_eq_some.mp hr
          rw [List.getElem?_map, z1] at hx
          exact ⟨(Option.some.inj hx).symm, sgn_mono (e05.trans e) _ _ (hsgn i r.1 r.2 z1 z2)⟩
        refine gq_asg (eg_liftL (el_lcF (K := K) (gds.zip signs) (fun r => decide (r.2.2.2 = here) && decide ((r.2.2.1.length : Int) ≤ room)) (fun r => V.ref r.1) (ev_var rfl) (sq_of hc5) (by rw [List.length_map, List.length_zip]; omega) (by rw [List.length_zip]; omega) (fun _ => rfl) (fun i x r G e hx hr => ?_) (fun i x r G e hx hr _ => ?_))) s7 fun v B6 H8 e6 s8 r => ?_
        · obtain ⟨rfl, q, h1, h2⟩ := hsg e hx hr
          exact et_and (et_is (et_test (ev_op (ev_op (ev_var rfl) ev_c (rv_ixL (sq_of h1) (atI_nat (j := 2) rfl))) (ev_var rfl) (rv_eq rfl))) str_eq_iff) fun _ => et_is (et_test (ev_op (ev_len (ev_op (ev_var rfl) ev_c (rv_ixL (sq_of h1) (atI_nat (j := 1) rfl))) (sq_of h2)) (ev_var rfl) rv_I0)) (by rw [List.length_map])
        · obtain ⟨rfl, _⟩ := hsg e hx hr
          exact ev_var rfl
        obtain ⟨pf, rfl, npf, _, rfl⟩ := r
        obtain ⟨fs, hfs⟩ : ∃ fs, fs = (gds.zip signs).filter (fun r => decide (r.2.2.2 = here) && decide ((r.2.2.1.length : Int) ≤ room)) := ⟨_, rfl⟩
        rw [← hfs] at s8 e6
        have hf6 : (L2.upd B5 pf (.lst (fs.map fun r => V.ref r.1))) pf = some (.lst (fs.map fun r => V.ref r.1)) := upd_same
        have e06 := e05.trans e6
        have hw6 := e6 _ _ (e5 _ _ hw4)
        have hd6 := e6 _ _ (e5 _ _ hd4)
        generalize (L2.upd B5 pf (.lst (fs.map fun r => V.ref r.1))) = B6 at s8 hf6 e06 hw6 hd6
        refine g_if (Rt := fun bb _ => bb = true → fs ≠ []) (egt_and (Rt := fun bb _ => bb = true → fs ≠ []) (Ru := fun _ _ => True) (?_ : EvGT _ _ _ _ _) (fun B8 e8 _ => egt_test (R := fun v _ => ∃ bb, v = .bl bb) (eg_opW (Rb := fun v _ => ∃ n : Nat, v = .int (n : Int) ∧ (n : Int) < 9) (eg_takeN (m := 9) (ev_var rfl) ev_c (by decide)) (fun _ _ _ _ => ev_c) fun v _ _ r => ?_) fun v _ _ r => ?_) (fun _ _ _ => fun z => by cases z) (fun bb B8 B9 _ h _ _ => fun _ => h rfl)) s8 (fun B7 H9 e7 s9 rt => ?_) (fun B7 H9 e7 s9 _ => ?_)
        · intro Hx sx Qx qx
          refine egt_lift (et_truL (xs := fs.map fun r => V.ref r.1) (ev_var rfl) (sq_of hf6)) Hx sx Qx fun bb B' H' e s' r => qx bb B' H' e s' fun hb => ?_
          rw [r.1] at hb
          intro z
          rw [z] at hb
          cases hb
        · obtain ⟨n, rfl, _⟩ := r
          exact ⟨_, rv_I0, _, rfl⟩
        · obtain ⟨bb, rfl⟩ := r
          exact ⟨bb, rfl, trivial⟩
        · have hpos := List.length_pos_iff.mpr (rt rfl)
          have hf7 := e7 _ _ hf6
          refine gq_asg (eg_itemL (n := ((fs.map fun r => V.ref r.1).length : Int)) (ev_var rfl) (sq_of hf7) (eg_takeN (ev_var rfl) (ev_len (ev_var rfl) (sq_of hf7)) (by rw [List.length_map]; omega)) (Int.le_refl _)) s9 fun v B8 H10 e8 s10 mem => ?_
          obtain ⟨r, hr, rfl⟩ := List.mem_map.mp mem
          have e78 := e7.trans e8
          have e08 := e06.trans e78
          obtain ⟨hrs, q, hp0, hq0⟩ : r.2 ∈ signs ∧ SgnAt (hide H d) r.1 r.2 := by
            rw [hfs] at hr
            have hr := (List.mem_filter.mp hr).1
            obtain ⟨m, hm⟩ := List.mem_iff_getElem?.mp hr
            obtain ⟨z1, z2⟩ := List.getElem?_zip_eq_some.mp hm
            exact ⟨List.mem_of_getElem? z2, hsgn m r.1 r.2 z1 z2⟩
          have hp := e08 _ _ hp0
          have gr := hG.sgn r.2 hrs
          have hw8 := e78 _ _ hw6
          have hd8 := e78 _ _ hd6
          have nl := (name_len gr.1).2
          have lwm : (ws.map V.str).length = ws.length := List.length_map _
          refine gq_app (l := pw) (xs := ws.map V.str) hw8 (fun _ => ev_var rfl) (eg_ev (v := .str r.2.1) (ev_op (ev_var rfl) ev_c (rv_ixL (sq_of hp) (atI_nat (j := 0) rfl)))) (by omega) s10 fun v B9 H11 e9 rv s11 => ?_
          subst rv
          have hww : ws.map V.str ++ [V.str r.2.1] = (ws ++ [r.2.1]).map V.str := by simp
          rw [hww] at s11
          have e10 : Ex (hide H d) (L2.upd B9 pw (.lst ((ws ++ [r.2.1]).map V.str))) := (e08.trans e9).mut nw0
          have hw10 : (L2.upd B9 pw (.lst ((ws ++ [r.2.1]).map V.str))) pw = some (.lst ((ws ++ [r.2.1]).map V.str)) := upd_same
          have hd10 : (L2.upd B9 pw (.lst ((ws ++ [r.2.1]).map V.str))) pd = some (.lst (ds'.map V.str)) := by rw [upd_ne (Ne.symm hwd)]; exact e9 _ _ hd8
          have hp10 := e10 _ _ hp0
          have hq10 := e10 _ _ hq0
          generalize (L2.upd B9 pw (.lst ((ws ++ [r.2.1]).map V.str))) = B10 at s11 e10 hw10 hd10 hp10 hq10
          have nqd : q ≠ pd := fun z => by rw [z, nd0] at hq0; cases hq0
          have nqw : q ≠ pw := fun z => by rw [z, nw0] at hq0; cases hq0
          have hq4 := gr.2.1
          have hlv : ((r.2.2.1.map V.str).length) = r.2.2.1.length := List.length_map _
          have hsigma : ∀ {G : Hp}, Ex B10 G → Ev (tOp (rIxL K) (tVar 10) (tC (.int 1))) [some (.ref d), some (.ref b), some (.ref c), some (.str kind), some (.int budget), some (.ref pw), some (.ref pd), some (.int i), some (.str here), some (.int room), some (.ref r.1), some (.ref pf), u12, none, u14] G (.ref q) := fun e => ev_op (ev_var rfl) ev_c (rv_ixL (sq_of (e _ _ hp10)) (atI_nat (j := 1) rfl))
          refine (hsigma (Ex.refl _)) H11 s11.ex _ fun H12 e12 => ⟨q, r.2.2.1.map V.str, rfl, sq_of ((s11.mono e12).ex _ _ hq10), for_it (walk_rev (K := K) (a := q) (xs := r.2.2.1.map V.str)) (fun m σ' H' => ∃ (B11 : Hp) (ds2 : List Str) (u12 : Option V), σ' = [some (.ref d), some (.ref b), some (.ref c), some (.str kind), some (.int budget), some (.ref pw), some (.ref pd), some (.int i), some (.str here), some (.int room), some (.ref r.1), some (.ref pf), u12, none, u14] ∧ Ex (hide H d) B11 ∧ Sd B11 d H' ∧ B11 pw = some (.lst ((ws ++ [r.2.1]).map V.str)) ∧ B11 pd = some (.lst (ds2.map V.str)) ∧ (∀ x ∈ ds2, x ∈ sorts.map (·.1)) ∧ ds2.length = ds'.length + m)
            ⟨B10, ds', u12, rfl, e10, s11.mono e12, hw10, hd10, hds', rfl⟩ (fun m σ' H' _ p => ?_) (fun m x σ' H13 H14 hm p y => ?_) (fun σ' H13 p => ?_)⟩
          · obtain ⟨B11, ds2, _, _, e11, s11, _⟩ := p
            exact sq_of (s11.ex _ _ (e11 _ _ hq0))
          · obtain ⟨rfl, hx⟩ := y
            obtain ⟨B11, ds2, u12, rfl, e11, s11, hw11, hd11, hds2, ld2⟩ := p
            rw [hlv] at hm hx
            rw [List.getElem?_map] at hx
            cases ex : r.2.2.1[r.2.2.1.length - 1 - m]? with
            | none => rw [ex] at hx; cases hx
            | some ar =>
              rw [ex] at hx
              obtain rfl : V.str ar = x := Option.some.inj hx
              have har : ar ∈ sorts.map (·.1) := gr.2.2 ar (List.mem_append_left _ (List.mem_of_getElem? ex))
              refine g_app (l := pd) (xs := ds2.map V.str) hd11 (fun _ => ev_var rfl) (eg_ev (v := .str ar) (ev_var rfl)) (by rw [List.length_map, ld2]; omega) s11 fun v B12 H15 e12 rv s12 => ?_
              subst rv
              refine ⟨_, ds2 ++ [ar], _, rfl, (e11.trans e12).mut nd0, s12, by rw [upd_ne hwd]; exact e12 _ _ hw11, by rw [upd_same]; simp, fun x hx => ?_, by rw [List.length_append, ld2]; rfl⟩
              rcases List.mem_append.mp hx with z | z
              · exact hds2 x z
              · rw [List.mem_singleton.mp z]
                exact har
          · obtain ⟨B11, ds2, u12, rfl, e11, s11, hw11, hd11, hds2, ld2⟩ := p
            rw [hlv] at ld2
            refine ⟨B11, ws ++ [r.2.1], ds2, _, _, _, _, _, _, _, rfl, e11, s11, hw11, hd11, by rw [List.length_append]; simp; omega, fun w hw => ?_, hds2, by omega⟩
            rcases List.mem_append.mp hw with z | z
            · exact hws w z
            · rw [List.mem_singleton.mp z]
              omega
        · have e08 := e06.trans e7
          have hw7 := e7 _ _ hw6
          have hd7 := e7 _ _ hd6
          obtain ⟨rh, hrh, ehr⟩ := List.mem_map.mp hhere
          have hfl : ∃ r0 l0, sorts.filter (fun r => decide (r.1 = here)) = r0 :: l0 := by
            cases hq : sorts.filter (fun r => decide (r.1 = here)) with
            | nil => exact absurd (List.filter_eq_nil_iff.mp hq rh hrh) (by simp [ehr])
            | cons r0 l0 => exact ⟨r0, l0, rfl⟩
          obtain ⟨r0, l0, hfl⟩ := hfl
          have hr0 : r0 ∈ sorts := (List.mem_filter.mp (by rw [hfl]; exact List.mem_cons_self)).1
          have hcap := cap_one hG hr0
          have hcv : EvL (tLc (iList K (tVar 1)) (gName 13) (tTest (tOp rEq (tOp (rIxL K) (tVar 13) (tC (.int 0))) (tVar 8))) (tOp (rIxL K) (tVar 13) (tC (.int 1))) [13]) [some (.ref d), some (.ref b), some (.ref c), some (.str kind), some (.int budget), some (.ref pw), some (.ref pd), some (.int i), some (.str here), some (.int room), u10, some (.ref pf), u12, none, u14] B7 ((r0 :: l0).map fun r => V.str r.2) := by
            rw [← hfl]
            refine el_lcF (K := K) (xs := ads.map V.ref) sorts (fun r => decide (r.1 = here)) (fun r => V.str r.2) (ev_var rfl) (sq_of (e08 _ _ hbl)) (by rw [List.length_map, hbn]) (by omega) (fun _ => rfl) (fun m x r G e hx hr => ?_) (fun m x r G e hx hr _ => ?_)
            · obtain ⟨p, rfl, hp⟩ := ads_at hrow hx hr
              exact et_is (et_test (ev_op (ev_op (ev_var rfl) ev_c (rv_ixL (sq_of (e _ _ (e08 _ _ hp))) (atI_nat (j := 0) rfl))) (ev_var rfl) (rv_eq rfl))) str_eq_iff
            · obtain ⟨p, rfl, hp⟩ := ads_at hrow hx hr
              exact ev_op (ev_var rfl) ev_c (rv_ixL (sq_of (e _ _ (e08 _ _ hp))) (atI_nat (j := 1) rfl))
          refine gq_asg (eg_ev (v := .str r0.2) (ev_opL1 hcv (fun _ _ => ev_c) fun p G hp e => rv_ixL (sq_of hp) (atI_nat (j := 0) rfl))) s9 fun v B8 H10 e8 s10 rv => ?_
          subst rv
          have lwm : (ws.map V.str).length = ws.length := List.length_map _
          have num : EvG (tCB rStrI (tCons (tOp (rIxL K) (tLst (tCons (tC (.int 0)) (tCons (tC (.int 1)) (tCons (tC (.int 7)) (tCons (tC (.int 10)) (tCons (tC (.int 999999999)) tNil)))))) (tCall spTake [] E0 (tCons (tVar 0) (tCons (tC (.int 5)) tNil)))) tNil)) [some (.ref d), some (.ref b), some (.ref c), some (.str kind), some (.int budget), some (.ref pw), some (.ref pd), some (.int i), some (.str here), some (.int room), u10, some (.ref pf), u12, none, some (.str r0.2)] B8 d fun v _ => ∃ y : Str, v = .str y ∧ y.length ≤ 18 := by
            refine eg_cb1 (R := fun v _ => ∃ n : Nat, v = .int (n : Int) ∧ n ≤ 999999999) (eg_itemN (n := 5) (Pv := fun v => ∃ n : Nat, v = .int (n : Int) ∧ n ≤ 999999999) (EvG.sd (eg_liftL (xs := [.int 0, .int 1, .int 7, .int 10, .int 999999999]) (el_lst (ea_cons ev_c (ea_cons ev_c (ea_cons ev_c (ea_cons ev_c (ea_cons ev_c ea_nil))))) (by simp))) fun v B9 r => ?_) fun B9 => eg_takeN (ev_var rfl) ev_c (by decide)) fun v B9 r => ?_
            · obtain ⟨q, rfl, _, _, rfl⟩ := r
              refine ⟨q, _, rfl, upd_same, by decide, fun v hv => ?_⟩
              simp only [List.mem_cons, List.not_mem_nil, or_false] at hv
              rcases hv with rfl | rfl | rfl | rfl | rfl
              · exact ⟨0, rfl, by decide⟩
              · exact ⟨1, rfl, by decide⟩
              · exact ⟨7, rfl, by decide⟩
              · exact ⟨10, rfl, by decide⟩
              · exact ⟨999999999, rfl, by decide⟩
            · obtain ⟨n, rfl, hn⟩ := r
              exact ⟨_, rc_strI (by omega), _, rfl, num_len (by omega)⟩
          refine g_app (l := pw) (xs := ws.map V.str) (R := fun v _ => ∃ y : Str, v = .str y ∧ y.length ≤ 400) (e8 _ _ hw7) (fun _ => ev_var rfl) (eg_opV (ev_var rfl) num fun y B9 _ hy => ?_) (by omega) s10 fun v B9 H11 e9 rv s11 => ?_
          · obtain ⟨y, rfl, hy⟩ := hy
            exact ⟨_, rv_addS (by omega), _, rfl, by rw [len_app]; omega⟩
          · obtain ⟨y, rfl, hy⟩ := rv
            refine ⟨_, ws ++ [y], ds', _, _, _, _, _, _, _, rfl, ((e08.trans e8).trans e9).mut nw0, s11, by rw [upd_same]; simp, by rw [upd_ne (Ne.symm hwd)]; exact e9 _ _ (e8 _ _ hd7), by rw [List.length_append]; simp; omega, fun w hw => ?_, hds', by omega⟩
            rcases List.mem_append.mp hw with z | z
            · exact hws w z
            · rw [List.mem_singleton.mp z]
              exact hy
    · obtain ⟨B3, ws, ds, u7, u8, u9, u10, u11, u12, u14, rfl, e3, s3, hw3, hd3, lw, hws, hds, ld⟩ := q
      exact s_ret (ev_var rfl) fun H5 e5 => k _ B3 H5 e3 (s3.mono e5) ⟨pw, ws, rfl, hw3, Nat.zero_le _, by omega, hws⟩
end
end K01
-- E31
namespace K01
open PySem PySem.Spec PyProof.Rows L2 Evl KEv TL KDd KSq KSame KTxt KHot KSup KNew KRvT KD KTry
/-! _law_text -/
section
variable {P : Program} {w : World} {K : PySem.W.Frag} {mg : Str → Option Value} {base : Heap} {σ : L2.St} {H B : Hp} {d : Addr} {C : Addr}
def spText : Sp := spGen (fun rest H1 => ∃ (b c : Addr) (sorts : List Row) (signs : List Sgn) (great : Bool), rest = [.ref b, .ref c, .bl great] ∧ RowsAt RowAt H1 b sorts ∧ RowsAt SgnAt H1 c signs ∧ GoodS sorts signs) (fun _ v _ => ∃ x : Str, v = .str x ∧ x.length ≤ 90000)
theorem name_ok {x : Str} (h : nameB (tl x) = true) : PyData.strOk x = true := by
  unfold nameB at h
  simp only [Bool.and_eq_true] at h
  have h2 := List.all_eq_true.mp h.2
  unfold PyData.strOk
  rw [← Array.all_toList, List.all_eq_true]
  intro c hc
  have a1 : ∀ c ∈ tl small, c < 0x110000 := by decide
  have a2 : ∀ c ∈ tl digits, c < 0x110000 := by decide
  have := h2 c hc
  rw [Bool.or_eq_true, decide_eq_true_eq, decide_eq_true_eq] at this
  exact decide_eq_true (this.elim (a1 c) (a2 c))
theorem lay_strs : ∀ ss : List Str, (∀ x ∈ ss, PyData.strOk x = true) → PyData.canLayAll0 (ss.map PyData.str) = true
  | [], _ => rfl
  | x :: ss, h => by
    rw [List.map_cons]
    simp [PyData.canLayAll0, PyData.canLay0, lay_strs ss fun y hy => h y (List.mem_cons_of_mem _ hy), h x List.mem_cons_self]
theorem depth_strs : ∀ ss : List Str, PyData.depthAll (ss.map PyData.str) ≤ 1
  | [] => by simp [PyData.depthAll]
  | x :: ss => by
    have := depth_strs ss
    rw [List.map_cons]
    simp only [PyData.depthAll, PyData.depth]
    omega
theorem shaped_strs {ss : List Str} (h : ∀ x ∈ ss, PyData.strOk x = true) : SeqAt.shaped (.list (ss.map PyData.str)) = true := by
  unfold SeqAt.shaped
  have h1 := lay_strs ss h
  have h2 := depth_strs ss
  rw [Bool.and_eq_true, decide_eq_true_eq]
  exact ⟨by simpa [PyData.canLay0] using h1, by simp only [PyData.depth]; omega⟩
theorem dp_strs {H : Hp} : ∀ ss : List Str, DpAll K H (ss.map V.str) (ss.map PyData.str)
  | [] => .nil
  | x :: ss => .cons (.str x) (dp_strs ss)
theorem scTx : FnScope ["draws", "sorts", "signs", "great", "words", "k", "row", "at", "menu", "word", "way"] ["draws", "sorts", "signs", "great"] (defScope (topS 39)) := ⟨rfl, rfl, rfl, by decide +kernel, rfl, by decide +kernel, by decide +kernel⟩
theorem ok_text {f ft fe fw : Addr} {fd fdt fde fdw : FuncData} (D : DefAt K mg 39 "_law_text" ["draws", "sorts", "signs", "great"] f fd) (T : TakeAt P w K mg base ft fdt) (TE : GenAt P w K mg base 2 "_law_term" ["draws", "sorts", "signs", "kind", "budget"] spTerm fe fde) (WO : GenAt P w K mg base 2 "_law_words" ["draws", "sorts", "signs"] spWords fw fdw) (N : Nm mg) (M : NmS mg) : FnOk P w K mg base CX0 3 f fd ["draws", "sorts", "signs", "great"] spText := by
  refine D.F.ok scTx (fun vs H Q E h => ?_) (fun cdv A outer s H vs Q E hr h => ?_)
  · obtain ⟨d, rest, rfl, _, ⟨b, c, sorts, signs, great, rfl, _⟩, _⟩ := h
    rfl
  · obtain ⟨d, rest, rfl, hd, ⟨b, c, sorts, signs, great, rfl, hb, hc, hG⟩, k⟩ := h
    refine ⟨_, (pss_cons (ps_asg (pe_call TE.F (hr.mono (by decide)) (by rfl) TE.g TE.kp TE.b .nil pass0 (pa_cons (pv 0) (pa_cons (pv 1) (pa_cons (pv 2) (pa_cons (pe_ix (r := rIxL K) ix_list (pe_ix (r := rIxL K) ix_list (pv 1) (pe_call T.F (hr.mono (by decide)) (by rfl) T.g T.kp T.b .nil pass0 (pa_cons (pv 0) (pa_cons (pe_callB (r := rLenS K) call_len_seq (by rfl) N.len PySem.boot_len (pa_cons (pv 1) pa_nil)) pa_nil))) (fun _ _ => rfl)) pe_int (fun _ _ => rfl)) (pa_cons (pe_op op_add pe_int (pe_call T.F (hr.mono (by decide)) (by rfl) T.g T.kp T.b .nil pass0 (pa_cons (pv 0) (pa_cons pe_int pa_nil)))) pa_nil)))))) (pg_name (i := 4) scTx.nd rfl (.inl rfl))) (pss_cut (ps_if (PW.pt (pw_and (pt_val (pv 3)) (pw_and (pt_tru (pv 2)) (pw_and1 (pt_cmpR (r := rEqD K) (op_eqD hr.units) (pe_ix (r := rIxL K) ix_list (pe_ix (r := rIxL K) ix_list (pv 2) pe_int (fun _ _ => rfl)) pe_int (fun _ _ => rfl)) (pe_lst (pa_cons (pe_ix (r := rIxL K) ix_list (pe_ix (r := rIxL K) ix_list (pv 2) pe_int (fun _ _ => rfl)) pe_int (fun _ _ => rfl)) pa_nil)) (nomark _)))))) (pss_cons (ps_setLc (i := 4) (own := [("k", 5)]) (g := gName 5) rfl scTx.nd rfl rfl (sw_true rfl rfl rfl (by decide +kernel)) (pi_range1 (by rfl) M.range (pa_cons (pe_op op_add pe_int (pe_call T.F (hr.mono (by decide)) (by rfl) T.g T.kp T.b .nil pass0 (pa_cons (pv 0) (pa_cons pe_int pa_nil)))) pa_nil)) (blkOk_by (own := [("k", 5)]) (N := ["draws", "sorts", "signs", "great", "words", "k", "row", "at", "menu", "word", "way"]) (sc := defScope (topS 39)) (by decide +kernel)) (fun _ _ _ _ _ => pg_name (i := 5) scTx.nd rfl (.inl rfl) (hf := .inr rfl)) (fun _ _ _ _ _ => pts_nil) (fun _ _ _ _ _ => (pe_ix (r := rIxL K) ix_list (pe_ix (r := rIxL K) ix_list (pv 2) pe_int (fun _ _ => rfl)) pe_int (fun _ _ => rfl)))) (pss_one (ps_asg (pe_op (r := rCat) op_cat (pv 4) (pe_lc (own := [("row", 6)]) (g := gName 6) rfl scTx.nd (pi_list (pv 1)) (blkOk_by (own := [("row", 6)]) (N := ["draws", "sorts", "signs", "great", "words", "k", "row", "at", "menu", "word", "way"]) (sc := defScope (topS 39)) (by decide +kernel)) (fun _ _ _ _ _ => pg_name (i := 6) scTx.nd rfl (.inl rfl) (hf := .inr rfl)) (fun _ _ _ _ _ => pts_one (pt_cmpR op_eq (pe_ix (r := rIxL K) ix_list (pv 6) pe_int (fun _ _ => rfl)) (pe_ix (r := rIxL K) ix_list (pe_ix (r := rIxL K) ix_list (pv 2) pe_int (fun _ _ => rfl)) pe_int (fun _ _ => rfl)) (nomark _))) (fun _ _ _ _ _ => (pe_op op_addS (pe_ix (r := rIxL K) ix_list (pv 6) pe_int (fun _ _ => rfl)) pe_str)))) (pg_name (i := 4) scTx.nd rfl (.inl rfl))))) pss_nil) (pss_cons (ps_asg (pe_call T.F (hr.mono (by decide)) (by rfl) T.g T.kp T.b .nil pass0 (pa_cons (pv 0) (pa_cons (pe_op op_add (pe_callB (r := rLenS K) call_len_seq (by rfl) N.len PySem.boot_len (pa_cons (pv 4) pa_nil)) pe_int) pa_nil))) (pg_name (i := 7) scTx.nd rfl (.inl rfl))) (pss_cons (ps_asg (pe_call WO.F (hr.mono (by decide)) (by rfl) WO.g WO.kp WO.b .nil pass0 (pa_cons (pv 0) (pa_cons (pv 1) (pa_cons (pv 2) pa_nil)))) (pg_name (i := 8) scTx.nd rfl (.inl rfl))) (pss_cons (ps_asg (pe_ix (r := rIxL K) ix_list (pv 8) (pe_call T.F (hr.mono (by decide)) (by rfl) T.g T.kp T.b .nil pass0 (pa_cons (pv 0) (pa_cons (pe_callB (r := rLenS K) call_len_seq (by rfl) N.len PySem.boot_len (pa_cons (pv 8) pa_nil)) pa_nil))) (fun _ _ => rfl)) (pg_name (i := 9) scTx.nd rfl (.inl rfl))) (pss_cons (ps_asg (pe_call T.F (hr.mono (by decide)) (by rfl) T.g T.kp T.b .nil pass0 (pa_cons (pv 0) (pa_cons pe_int pa_nil))) (pg_name (i := 10) scTx.nd rfl (.inl rfl))) (pss_cut (ps_if (pt_cmpR op_eq (pv 10) pe_int (nomark _)) (pss_one (ps_asg (pe_op (r := rCat) op_cat (pe_op (r := rCat) op_cat (pe_slice (r := rSlL K) sl_list (pv 4) po_none (po_some (pv 7))) (pe_lst (pa_cons (pv 9) pa_nil))) (pe_slice (r := rSlL K) sl_list (pv 4) (po_some (pv 7)) po_none)) (pg_name (i := 4) scTx.nd rfl (.inl rfl)))) (pss_one (ps_if (pt_cmpR op_eq (pv 10) pe_int (nomark _)) (pss_one (ps_asg (pe_op (r := rCat) op_cat (pe_op (r := rCat) op_cat (pe_slice (r := rSlL K) sl_list (pv 4) po_none (po_some (pv 7))) (pe_lst (pa_cons (pv 9) pa_nil))) (pe_slice (r := rSlL K) sl_list (pv 4) (po_some (pe_op op_add (pv 7) pe_int)) po_none)) (pg_name (i := 4) scTx.nd rfl (.inl rfl)))) (pss_one (ps_if (pt_cmpR op_eq (pv 10) pe_int (nomark _)) (pss_one (ps_asg (pe_op (r := rCat) op_cat (pe_slice (r := rSlL K) sl_list (pv 4) po_none (po_some (pv 7))) (pe_slice (r := rSlL K) sl_list (pv 4) (po_some (pe_op op_add (pv 7) pe_int)) po_none)) (pg_name (i := 4) scTx.nd rfl (.inl rfl)))) (pss_one (ps_if (pt_cmpR op_eq (pv 10) pe_int (nomark _)) (pss_one (ps_asg (pe_op (r := rCat) op_cat (pv 4) (pe_lst (pa_cons (pv 9) pa_nil))) (pg_name (i := 4) scTx.nd rfl (.inl rfl)))) pss_nil))))))) (pss_one (ps_ret (pe_joinS pe_str (pv 4))))))))))), ?_⟩
    have s0 := Sd.of hd
    have z8 := hG.s8
    have z12 := hG.g12
    obtain ⟨ads, hbl, hbn, hrow⟩ := id hb
    obtain ⟨gds, hcl, hcn, hsgn⟩ := id hc
    -- the term
    have kindE : EvG (tOp (rIxL K) (tOp (rIxL K) (tVar 1) (tCall spTake [] E0 (tCons (tVar 0) (tCons (tCB (rLenS K) (tCons (tVar 1) tNil)) tNil)))) (tC (.int 0))) [some (.ref d), some (.ref b), some (.ref c), some (.bl great), none, none, none, none, none, none, none] (hide H d) d fun u _ => ∃ r ∈ sorts, u = .str r.1 := eg_rowc (v := fun r => .str r.1) row_c0 hb hG.s1 (fun _ => ev_var rfl) (fun _ => ev_var rfl)
    have budE : ∀ B1, EvG (tOp (rI0 fun a b => .int (a + b)) (tC (.int 1)) (tCall spTake [] E0 (tCons (tVar 0) (tCons (tC (.int 30)) tNil)))) [some (.ref d), some (.ref b), some (.ref c), some (.bl great), none, none, none, none, none, none, none] B1 d fun u _ => ∃ n : Nat, u = .int (n : Int) ∧ n ≤ 30 := fun B1 => eg_opV ev_c (eg_takeN (m := 30) (ev_var rfl) ev_c (by decide)) fun y B2 _ hy => by
      obtain ⟨n, rfl, hn⟩ := hy
      exact ⟨_, rv_I0, 1 + n, by rw [Int.natCast_add]; rfl, by omega⟩
    refine gq_asg (R := Txs 0 30 400) (eg_call (Rs := fun us _ => ∃ (r : Row) (n : Nat), r ∈ sorts ∧ n ≤ 30 ∧ us = [.ref d, .ref b, .ref c, .str r.1, .int (n : Int)]) (ega_sd (ega_consV (ev_var rfl) (ega_consV (ev_var rfl) (ega_consV (ev_var rfl) (ega_cons (Rr := fun _ us _ => ∃ n : Nat, n ≤ 30 ∧ us = [.int (n : Int)]) (Rw := fun us _ => ∃ (r : Row) (n : Nat), r ∈ sorts ∧ n ≤ 30 ∧ us = [.str r.1, .int (n : Int)]) kindE (fun v B1 _ _ => ega_sd (ega_one (budE B1)) fun us B2 _ h => ?_) fun v us B1 B2 _ hv _ h => ?_)))) fun us B1 _ h => ?_) (fun us B1 H1 e1 h e2 => ?_) fun rest B1 B2 v _ _ _ h => h) s0 fun v B1 H1 e1 s1 r => ?_
    · obtain ⟨v, rfl, n, rfl, hn⟩ := h
      exact ⟨n, hn, rfl⟩
    · obtain ⟨r, hr, rfl⟩ := hv
      obtain ⟨n, hn, rfl⟩ := h
      exact ⟨r, n, hr, hn, rfl⟩
    · obtain ⟨_, rfl, _, rfl, _, rfl, r, n, h1, h2, rfl⟩ := h
      exact ⟨r, n, h1, h2, rfl⟩
    · obtain ⟨r, n, h1, h2, rfl⟩ := h
      exact ⟨_, rfl, b, c, sorts, signs, r.1, n, rfl, rowsAt_mono hb (e1.trans e2), sgnsAt_mono hc (e1.trans e2), hG, List.mem_map.mpr ⟨r, h1, rfl⟩, h2⟩
    obtain ⟨p1, ws1, rfl, hp1, _, l1, hw1⟩ := r
    have hc1 := e1 _ _ hcl
    have htest : ∃ bb : Bool, EvT (tAnd (tB (tVar 3)) (tAnd (tTru K (tVar 2)) (tTest (tOp (rEqD K) (tOp (rIxL K) (tOp (rIxL K) (tVar 2) (tC (.int 0))) (tC (.int 1))) (tLst (tCons (tOp (rIxL K) (tOp (rIxL K) (tVar 2) (tC (.int 0))) (tC (.int 2))) tNil)))))) [some (.ref d), some (.ref b), some (.ref c), some (.bl great), some (.ref p1), none, none, none, none, none, none] B1 bb ∧ (bb = true → signs ≠ []) := by
      have htr : EvT (tTru K (tVar 2)) [some (.ref d), some (.ref b), some (.ref c), some (.bl great), some (.ref p1), none, none, none, none, none, none] B1 (!(gds.map V.ref).isEmpty) := et_truL (ev_var rfl) (sq_of hc1)
      cases hs : signs with
      | nil =>
        have : gds = [] := List.length_eq_zero_iff.mp (by rw [hcn, hs]; rfl)
        subst this
        exact ⟨_, et_and (b := false) (et_B (ev_var rfl)) (fun _ => et_and (b := false) htr (fun z => (by cases z))), fun z => by simp at z⟩
      | cons g gs =>
        have er : signs[0]? = some g := by rw [hs]; rfl
        have hg := hG.sgn g (List.mem_of_getElem? er)
        obtain ⟨q, hq, hql⟩ := ev_sgn1 (K := K) (σ := [some (.ref d), some (.ref b), some (.ref c), some (.bl great), some (.ref p1), none, none, none, none, none, none]) (tb := tVar 2) (tk := tC (.int 0)) (k := 0) (sgnsAt_mono hc e1) er (ev_var rfl) ev_c
        have ok : ∀ x ∈ sorts.map (·.1), PyData.strOk x = true := fun x hx => by
          obtain ⟨r, hr, rfl⟩ := List.mem_map.mp hx
          exact name_ok (hG.row r hr).1
        refine ⟨_, et_and (et_B (ev_var rfl)) fun _ => et_and htr fun _ => et_test (ev_opL (z := .bl (PyData.eqv (.list (g.2.1.map PyData.str)) (.list ([g.2.2].map PyData.str)))) hq (el_lst (ea_cons (ev_sgn2 (k := 0) (sgnsAt_mono hc e1) er (ev_var rfl) ev_c) ea_nil) (by simp)) fun l H3 hl e3 => fun H4 e4 Q q4 => ?_), fun _ => by simp⟩
        exact ⟨_, _, .lst (sq_of (e4 _ _ (e3 _ _ hql))) (dp_strs g.2.1), .lst (sq_of (e4 _ _ hl)) (dp_strs [g.2.2]), shaped_strs fun x hx => ok x (hg.2.2 x (by simp [hx])), shaped_strs fun x hx => ok x (hg.2.2 x (by simp at hx; simp [hx])), q4 H4 (Ex.refl _)⟩
    obtain ⟨bb, htest, hbb⟩ := htest
    refine q_cut (M := fun σ' H' => ∃ (B2 : Hp) (p : Addr) (ws : List Str), σ' = [some (.ref d), some (.ref b), some (.ref c), some (.bl great), some (.ref p), none, none, none, none, none, none] ∧ Ex B1 B2 ∧ Sd B2 d H' ∧ B2 p = some (.lst (ws.map V.str)) ∧ ws.length ≤ 211 ∧ ∀ w ∈ ws, w.length ≤ 400) ?_ fun σ' H2 q => ?_
    · refine g_ifP htest s1 (fun hb2 H2 s2 => ?_) (fun _ H2 s2 => ⟨B1, p1, ws1, rfl, Ex.refl _, s2, hp1, by omega, hw1⟩)
      obtain ⟨g, er⟩ : ∃ g, signs[0]? = some g := ⟨_, List.getElem?_eq_getElem (List.length_pos_iff.mpr (hbb hb2))⟩
      have hgl := (name_len (hG.sgn g (List.mem_of_getElem? er)).1).2
      refine gq_asg (R := Txs 197 203 400) (EvG.sd (eg_lcR2 (n1 := 197) (n0 := 203) (Kp := fun v => ∃ x : Str, v = .str x ∧ x.length ≤ 400) (ega_sd (ega_one (eg_opV (R := fun v _ => ∃ n : Nat, v = .int (n : Int) ∧ 197 ≤ n ∧ n ≤ 203) ev_c (eg_takeN (m := 6) (ev_var rfl) ev_c (by decide)) fun y B4 e4 hy => ?_)) fun us B4 e4 h => ?_) (by decide) (fun _ => rfl) (fun i B4 e4 => EvG.pure (ev_sgn0 (k := 0) (sgnsAt_mono hc (e1.trans e4)) er (ev_var rfl) ev_c) ⟨_, rfl, by omega⟩)) fun v B4 r => ?_) s2 fun v B3 H3 e3 s3 r => ?_
      · obtain ⟨n, rfl, hn⟩ := hy
        exact ⟨_, rv_I0, 197 + n, by rw [Int.natCast_add]; rfl, by omega, by omega⟩
      · obtain ⟨v, rfl, n, rfl, h1, h2⟩ := h
        exact ⟨n, rfl, h1, h2⟩
      · obtain ⟨p, xs, rfl, _, hp, h1, h2, hxs⟩ := r
        obtain ⟨ws, rfl, hws⟩ := strs_of hxs
        rw [List.length_map] at h1 h2
        exact ⟨p, ws, rfl, hp, h1, h2, hws⟩
      · obtain ⟨p3, ws3, rfl, hp3, l3, l3', hw3⟩ := r
        refine g_asg (R := Txs 197 211 400) (eg_catT (eg_txS (ev_var rfl) hp3 l3 l3' hw3) (fun B4 e4 => eg_txL (ws := (sorts.filter fun r => decide (r.1 = g.2.2)).map fun r => r.2 ++ "0") (a := 0) (m := 8) ?_ (Nat.zero_le _) ?_ fun x hx => ?_) (by decide)) s3 fun v B4 H4 e4 s4 r => ?_
        · rw [List.map_map]
          have e14 := (e1.trans e3).trans e4
          refine el_lcF (K := K) (xs := ads.map V.ref) sorts (fun r => decide (r.1 = g.2.2)) (fun r => V.str (r.2 ++ "0")) (ev_var rfl) (sq_of (e14 _ _ hbl)) (by rw [List.length_map, hbn]) (by omega) (fun _ => rfl) (fun m x r G e hx hr => ?_) (fun m x r G e hx hr _ => ?_)
          · obtain ⟨p, rfl, hp⟩ := ads_at hrow hx hr
            exact et_is (et_test (ev_op (ev_op (ev_var rfl) ev_c (rv_ixL (sq_of (e _ _ (e14 _ _ hp))) (atI_nat (j := 0) rfl))) (ev_sgn2 (k := 0) (sgnsAt_mono hc (e14.trans e)) er (ev_var rfl) ev_c) (rv_eq rfl))) str_eq_iff
          · obtain ⟨p, rfl, hp⟩ := ads_at hrow hx hr
            have hcap := cap_one hG (List.mem_of_getElem? hr)
            exact ev_op (ev_op (ev_var rfl) ev_c (rv_ixL (sq_of (e _ _ (e14 _ _ hp))) (atI_nat (j := 1) rfl))) ev_c (rv_addS (by rw [hcap]; decide))
        · rw [List.length_map]
          have := List.length_filter_le (fun r : Row => decide (r.1 = g.2.2)) sorts
          omega
        · obtain ⟨r, hr, rfl⟩ := List.mem_map.mp hx
          have hcap := cap_one hG (List.mem_filter.mp hr).1
          rw [len_app, hcap]
          decide
        · obtain ⟨p, ws, rfl, hp, _, l4, hw4⟩ := r
          exact ⟨B4, p, ws, rfl, e3.trans e4, s4, hp, l4, hw4⟩
    · obtain ⟨B2, p2, ws, rfl, e2, s2, hp2, l2, hw2⟩ := q
      have lws : (ws.map V.str).length = ws.length := List.length_map _
      refine gq_asg (eg_takeN (m := (ws.length : Int) + 1) (ev_var rfl) (ev_op (ev_is (ev_len (ev_var rfl) (sq_of hp2)) (by rw [lws])) ev_c rv_I0) (by omega)) s2 fun v B3 H3 e3 s3 r => ?_
      obtain ⟨at_, rfl, hat⟩ := r
      have e03 := (e1.trans e2).trans e3
      refine gq_asg (R := Txs 1 60 400) (eg_call (ega_lift (ea_cons (ev_var rfl) (ea_cons (ev_var rfl) (ea_cons (ev_var rfl) ea_nil)))) (fun us B1 H1 _ h e => ⟨[.ref b, .ref c], h.1, b, c, sorts, signs, rfl, rowsAt_mono hb (e03.trans (by have h2 := h.2; subst h2; exact e)), sgnsAt_mono hc (e03.trans (by have h2 := h.2; subst h2; exact e)), hG⟩) fun rest B1 B2 v _ _ _ h => h) s3 fun v B4 H4 e4 s4 r => ?_
      obtain ⟨pm, ms, rfl, hm4, m1, m2, hms⟩ := r
      refine gq_asg (R := fun v _ => ∃ x : Str, v = .str x ∧ x.length ≤ 400) (EvG.sd (eg_itemL (n := ((ms.map V.str).length : Int)) (ev_var rfl) (sq_of hm4) (eg_takeN (ev_var rfl) (ev_len (ev_var rfl) (sq_of hm4)) (by rw [List.length_map]; omega)) (Int.le_refl _)) fun v _ h => ?_) s4 fun v B5 H5 e5 s5 r => ?_
      · obtain ⟨x, hx, rfl⟩ := List.mem_map.mp h
        exact ⟨x, rfl, hms x hx⟩
      · obtain ⟨wd, rfl, hwd⟩ := r
        refine gq_asg (eg_takeN (m := 8) (ev_var rfl) ev_c (by decide)) s5 fun v B6 H6 e6 s6 r => ?_
        obtain ⟨way, rfl, _⟩ := r
        have e36 := (e3.trans e4).trans (e5.trans e6)
        have hp6 := e36 _ _ hp2
        have tk : ∀ w ∈ ws.take at_, w.length ≤ 400 := fun w hw => hw2 w (List.mem_of_mem_take hw)
        have dr : ∀ m, ∀ w ∈ ws.drop m, w.length ≤ 400 := fun m w hw => hw2 w (List.mem_of_mem_drop hw)
        have L1 : ∀ {G : Hp}, Ex B6 G → EvL (tSl (rSlL K) (tVar 4) tNoPart (tPart (tVar 7))) [some (.ref d), some (.ref b), some (.ref c), some (.bl great), some (.ref p2), none, none, some (.int at_), some (.ref pm), some (.str wd), some (.int way)] G ((ws.take at_).map V.str) := fun e => by
          rw [List.map_take, ← cutV_take (by rw [lws]; omega)]
          exact el_sl (ev_var rfl) eo_none (eo_some (ev_var rfl)) (sq_of (e _ _ hp6))
        have L2 : ∀ {G : Hp}, Ex B6 G → EvL (tSl (rSlL K) (tVar 4) (tPart (tVar 7)) tNoPart) [some (.ref d), some (.ref b), some (.ref c), some (.bl great), some (.ref p2), none, none, some (.int at_), some (.ref pm), some (.str wd), some (.int way)] G ((ws.drop at_).map V.str) := fun e => by
          rw [List.map_drop, ← cutV_drop]
          exact el_sl (ev_var rfl) (eo_some (ev_var rfl)) eo_none (sq_of (e _ _ hp6))
        have L3 : ∀ {G : Hp}, Ex B6 G → EvL (tSl (rSlL K) (tVar 4) (tPart (tOp (rI0 fun a b => .int (a + b)) (tVar 7) (tC (.int 1)))) tNoPart) [some (.ref d), some (.ref b), some (.ref c), some (.bl great), some (.ref p2), none, none, some (.int at_), some (.ref pm), some (.str wd), some (.int way)] G ((ws.drop (at_ + 1)).map V.str) := fun e => by
          rw [List.map_drop, ← cutV_drop]
          exact el_sl (ev_var rfl) (eo_some (ev_is (ev_op (ev_var rfl) ev_c rv_I0) (by simp))) eo_none (sq_of (e _ _ hp6))
        have LW : ∀ {G : Hp}, EvL (tLst (tCons (tVar 9) tNil)) [some (.ref d), some (.ref b), some (.ref c), some (.bl great), some (.ref p2), none, none, some (.int at_), some (.ref pm), some (.str wd), some (.int way)] G ([wd].map V.str) := el_lst (ea_cons (ev_var rfl) ea_nil) (by simp)
        have tw : ∀ w ∈ [wd], w.length ≤ 400 := fun w hw => by rw [List.mem_singleton.mp hw]; exact hwd
        refine q_cut (M := fun σ' H' => ∃ (B7 : Hp) (p : Addr) (ws : List Str), σ' = [some (.ref d), some (.ref b), some (.ref c), some (.bl great), some (.ref p), none, none, some (.int at_), some (.ref pm), some (.str wd), some (.int way)] ∧ Ex B6 B7 ∧ Sd B7 d H' ∧ B7 p = some (.lst (ws.map V.str)) ∧ ws.length ≤ 212 ∧ ∀ w ∈ ws, w.length ≤ 400) ?_ fun σ' H7 q => ?_
        · have fin : ∀ {v : V} {B7 H7 : Hp} {a m : Nat}, m ≤ 212 → Ex B6 B7 → Sd B7 d H7 → Txs a m 400 v B7 → ∃ (B7 : Hp) (p : Addr) (ws : List Str), [some (.ref d), some (.ref b), some (.ref c), some (.bl great), some v, none, none, some (.int at_), some (.ref pm), some (.str wd), some (.int way)] = [some (.ref d), some (.ref b), some (.ref c), some (.bl great), some (.ref p), none, none, some (.int at_), some (.ref pm), some (.str wd), some (.int way)] ∧ Ex B6 B7 ∧ Sd B7 d H7 ∧ B7 p = some (.lst (ws.map V.str)) ∧ ws.length ≤ 212 ∧ ∀ w ∈ ws, w.length ≤ 400 := fun hm e s r => by
            obtain ⟨p, ws, rfl, h1, h2, h3, h4⟩ := r
            exact ⟨_, p, ws, rfl, e, s, h1, by omega, h4⟩
          have lt : (ws.take at_).length ≤ 211 := by rw [List.length_take]; omega
          have ld : (ws.drop at_).length ≤ 211 - at_ := by rw [List.length_drop]; omega
          have ld1 : (ws.drop (at_ + 1)).length ≤ 211 - at_ := by rw [List.length_drop]; omega
          have lt2 : (ws.take at_).length ≤ at_ := by rw [List.length_take]; omega
          have hat2 : at_ ≤ 211 := by omega
          cases c0 : decide (V.int (way : Int) = V.int 0) with
          | true =>
            refine g_ifP (b := true) (et_is (et_test (ev_op (ev_var rfl) ev_c (rv_eq rfl))) c0) s6 (fun _ H7 s7 => ?_) (fun z => by cases z)
            exact g_asg (R := Txs 0 (at_ + 1 + (211 - at_)) 400) (EvG.sd (eg_catT (a1 := 0 + 0) (a2 := 0) (eg_catT (a1 := 0) (a2 := 0) (eg_txL (L1 (Ex.refl _)) (Nat.zero_le _) lt2 tk) (fun G e => eg_txL LW (Nat.zero_le _) (Nat.le_refl 1) tw) (by omega)) (fun G e => eg_txL (L2 e) (Nat.zero_le _) ld (dr _)) (by omega)) fun v B h => h) s7 fun v B8 H8 e8 s8 r => fin (by omega) e8 s8 r
          | false =>
            refine g_ifP (b := false) (et_is (et_test (ev_op (ev_var rfl) ev_c (rv_eq rfl))) c0) s6 (fun z => by cases z) (fun _ H7 s7 => ?_)
            cases c1 : decide (V.int (way : Int) = V.int 1) with
            | true =>
              refine g_ifP (b := true) (et_is (et_test (ev_op (ev_var rfl) ev_c (rv_eq rfl))) c1) s7 (fun _ H7 s7 => ?_) (fun z => by cases z)
              exact g_asg (R := Txs 0 (at_ + 1 + (211 - at_)) 400) (EvG.sd (eg_catT (a1 := 0 + 0) (a2 := 0) (eg_catT (a1 := 0) (a2 := 0) (eg_txL (L1 (Ex.refl _)) (Nat.zero_le _) lt2 tk) (fun G e => eg_txL LW (Nat.zero_le _) (Nat.le_refl 1) tw) (by omega)) (fun G e => eg_txL (L3 e) (Nat.zero_le _) ld1 (dr _)) (by omega)) fun v B h => h) s7 fun v B8 H8 e8 s8 r => fin (by omega) e8 s8 r
            | false =>
              refine g_ifP (b := false) (et_is (et_test (ev_op (ev_var rfl) ev_c (rv_eq rfl))) c1) s7 (fun z => by cases z) (fun _ H7 s7 => ?_)
              cases c2 : decide (V.int (way : Int) = V.int 2) with
              | true =>
                refine g_ifP (b := true) (et_is (et_test (ev_op (ev_var rfl) ev_c (rv_eq rfl))) c2) s7 (fun _ H7 s7 => ?_) (fun z => by cases z)
                exact g_asg (R := Txs 0 (at_ + (211 - at_)) 400) (EvG.sd (eg_catT (a1 := 0) (a2 := 0) (eg_txL (L1 (Ex.refl _)) (Nat.zero_le _) lt2 tk) (fun G e => eg_txL (L3 e) (Nat.zero_le _) ld1 (dr _)) (by omega)) fun v B h => h) s7 fun v B8 H8 e8 s8 r => fin (by omega) e8 s8 r
              | false =>
                refine g_ifP (b := false) (et_is (et_test (ev_op (ev_var rfl) ev_c (rv_eq rfl))) c2) s7 (fun z => by cases z) (fun _ H7 s7 => ?_)
                cases c3 : decide (V.int (way : Int) = V.int 3) with
                | true =>
                  refine g_ifP (b := true) (et_is (et_test (ev_op (ev_var rfl) ev_c (rv_eq rfl))) c3) s7 (fun _ H7 s7 => ?_) (fun z => by cases z)
                  exact g_asg (R := Txs 0 (211 + 1) 400) (EvG.sd (eg_catT (a1 := 0) (a2 := 0) (eg_txS (ev_var rfl) hp6 (Nat.zero_le _) l2 hw2) (fun G e => eg_txL LW (Nat.zero_le _) (Nat.le_refl 1) tw) (by omega)) fun v B h => h) s7 fun v B8 H8 e8 s8 r => fin (by omega) e8 s8 r
                | false =>
                  exact g_ifP (b := false) (et_is (et_test (ev_op (ev_var rfl) ev_c (rv_eq rfl))) c3) s7 (fun z => by cases z) (fun _ H7 s7 => ⟨B6, p2, ws, rfl, Ex.refl _, s7, hp6, by omega, hw2⟩)
        · obtain ⟨B7, p, ws7, rfl, e7, s7, hp7, l7, hw7⟩ := q
          have hsum := sum_le hw7
          refine s_ret (ev_join ev_c ((ev_var rfl : Ev (tVar 4) _ B7 (.ref p)).mono s7.ex) (sq_of (s7.ex _ _ hp7)) (by show _ + _ * 1 ≤ _; omega)) fun H8 e8 => k _ B7 H8 ((e03.trans (e4.trans (e5.trans e6))).trans e7) (s7.mono e8) ⟨_, rfl, ?_⟩
          have := txt_len ws7
          omega
end
end K01
-- KGenL
/-! a loop over a list that is read while the turns draw -/
namespace KD
open PySem PySem.Spec PyProof.Rows L2 Evl KEv KNew KSq
section
variable {K : PySem.W.Frag} {σ : L2.St} {B H : Hp} {d : Addr} {tl : TE} {tu tz : TS} {D : Ends} {j : Nat}
theorem g_list {Rl : List V → Hp → Prop} {ok : L2.St → Prop} (h : EvG tl σ B d fun v B1 => ∃ p us, v = .ref p ∧ B1 p = some (.lst us) ∧ Rl us B1) (s : Sd B d H) (h0 : ok σ)
    (hs : ∀ (us : List V) (B1 B2 H' : Hp) (i : Nat) (x : V) (σ' : L2.St), Ex B B1 → Rl us B1 → Ex B1 B2 → Sd B2 d H' → us[i]? = some x → ok σ' → tu { D with nx := fun σ3 H3 => ok σ3 ∧ ∃ B3, Ex B1 B3 ∧ Sd B3 d H3, ct := fun σ3 H3 => ok σ3 ∧ ∃ B3, Ex B1 B3 ∧ Sd B3 d H3, bk := D.nx } (σ'.set j (some x)) H')
    (hd : ∀ B1 H' σ', Ex B B1 → Sd B1 d H' → ok σ' → D.nx σ' H') : tFor (iList K tl) (gName j) tu D σ H :=
  h H s _ fun v B1 H1 e1 s1 r => by
    obtain ⟨p, us, rfl, hp, hr⟩ := r
    exact ⟨p, rfl, ⟨us, sq_of (s1.ex _ _ hp)⟩, for_it walk_list (fun _ σ3 H3 => ok σ3 ∧ ∃ B3, Ex B1 B3 ∧ Sd B3 d H3) ⟨h0, B1, Ex.refl B1, s1⟩ (fun i σ' H' _ z => by
      obtain ⟨_, B3, e3, s3⟩ := z
      exact sq_of (s3.ex _ _ (e3 _ _ hp))) (fun i x σ' H2 H3 _ z y => by
      obtain ⟨rfl, hx⟩ := y
      obtain ⟨hok, B3, e3, s3⟩ := z
      exact hs us B1 B3 _ i x σ' e1 hr e3 s3 hx hok) fun σ' H' z => by
      obtain ⟨hok, B3, e3, s3⟩ := z
      exact hd B3 H' σ' (e1.trans e3) s3 hok⟩
theorem gq_list {Rl : List V → Hp → Prop} {ok : L2.St → Prop} (h : EvG tl σ B d fun v B1 => ∃ p us, v = .ref p ∧ B1 p = some (.lst us) ∧ Rl us B1) (s : Sd B d H) (h0 : ok σ)
    (hs : ∀ (us : List V) (B1 B2 H' : Hp) (i : Nat) (x : V) (σ' : L2.St), Ex B B1 → Rl us B1 → Ex B1 B2 → Sd B2 d H' → us[i]? = some x → ok σ' → tu { D with nx := fun σ3 H3 => ok σ3 ∧ ∃ B3, Ex B1 B3 ∧ Sd B3 d H3, ct := fun σ3 H3 => ok σ3 ∧ ∃ B3, Ex B1 B3 ∧ Sd B3 d H3, bk := tz D } (σ'.set j (some x)) H')
    (hd : ∀ B1 H' σ', Ex B B1 → Sd B1 d H' → ok σ' → tz D σ' H') : tSeq (tFor (iList K tl) (gName j) tu) tz D σ H :=
  g_list (D := { D with nx := tz D }) h s h0 hs hd
end
end KD
-- E32
namespace K01
open PySem PySem.Spec PyProof.Rows L2 Evl KEv TL KDd KSq KSame KTxt KHot KSup KNew KRvT KD KTry
/-! _law_texts_told -/
section
variable {P : Program} {w : World} {K : PySem.W.Frag} {mg : Str → Option Value} {base : Heap} {σ : L2.St} {H B : Hp} {d : Addr} {C : Addr}
def spTextsTold (C : Addr) : Sp := spGen (fun rest H1 => ∃ (a b c : Addr) (sorts : List Row) (signs : List Sgn) (great : Bool), rest = [.ref a, .ref b, .ref c, .bl great] ∧ MadeAt C H1 a sorts signs ∧ RowsAt RowAt H1 b sorts ∧ RowsAt SgnAt H1 c signs ∧ GoodS sorts signs) (fun _ v _ => v = .bl true)
theorem ev_place {ta tb tc td : TE} {b c : Addr} {sorts : List Row} {signs : List Sgn} {x : Str} {k : Option Str} {E : XK} (hb : RowsAt RowAt H b sorts) (hc : RowsAt SgnAt H c signs) (hG : GoodS sorts signs) (h1 : Ev ta σ H (.ref b)) (h2 : Ev tb σ H (.ref c)) (h3 : Ev tc σ H (.str x)) (h4 : Ev td σ H (oV k)) (hx : x.length ≤ 90000) :
    Ev (tCall spPlace [] E (tCons ta (tCons tb (tCons tc (tCons td tNil))))) σ H (oN (faultOf sorts signs x k)) :=
  ev_call (ea_cons h1 (ea_cons h2 (ea_cons h3 (ea_cons h4 ea_nil)))) fun H1 e Q q E => ⟨b, c, sorts, signs, x, k, rfl, rowsAt_mono hb e, sgnsAt_mono hc e, hx, hG, fun H2 e2 => q H2 e2⟩
/-- what is due of check -/
def DueAt (H : Hp) (sorts : List Row) (signs : List Sgn) (x : Str) (k : Option Str) (due : V) : Prop :=
  (∀ i, faultOf sorts signs x k = some i → ∃ l t, due = .ref l ∧ H l = some (.lst [.ref t]) ∧ H t = some (.tup [.str (nmE .term), .str x, .int (i : Int)])) ∧
  (faultOf sorts signs x k = none → ∀ w, (Txt.split x (" " : Str))[0]? = some w → due = oV (wordSort sorts signs w 9))
theorem DueAt.mono {H' : Hp} {sorts : List Row} {signs : List Sgn} {x : Str} {k : Option Str} {due : V} (h : DueAt H sorts signs x k due) (e : Ex H H') : DueAt H' sorts signs x k due := ⟨fun i hf => by
  obtain ⟨l, t, z1, z2, z3⟩ := h.1 i hf
  exact ⟨l, t, z1, e _ _ z2, e _ _ z3⟩, h.2⟩
theorem ev_sameCk {ta tx tk td : TE} {E E' : XK} {a : Addr} {sorts : List Row} {signs : List Sgn} {x : Str} {k : Option Str} {due : V} (hM : MadeAt C H a sorts signs) (hG : GoodS sorts signs) (ha : Ev ta σ H (.ref a)) (hx : Ev tx σ H (.str x)) (hk : Ev tk σ H (oV k)) (hd : Ev td σ H due) (hl : x.length ≤ 100000) (hs : DueAt H sorts signs x k due) :
    Ev (tCall (spSame 4) [] E (tCons (tCall (spChecked C) [] E' (tCons ta (tCons tx (tCons tk tNil)))) (tCons td tNil))) σ H (.bl true) := by
    intro H1 e Q q
    show tCons ta (tCons tx (tCons tk tNil)) σ H1 (fun vs H2 => spChecked C (vs ++ []) H2 (fun v H3 => tCons td tNil σ H3 fun us H4 => spSame 4 ((v :: us) ++ []) H4 Q E) E')
    refine (ea_cons ha (ea_cons hx (ea_cons hk ea_nil))) H1 e _ fun H2 e2 => ?_
    refine ⟨a, x, k, sorts, signs, rfl, hM.mono (e.trans e2), hG, hl, fun i hf p q0 H3 hp e3 hp3 hq3 => ?_, fun hf w hw H3 e3 => ?_⟩
    · obtain ⟨l, t, rfl, hl0, ht0⟩ := hs.1 i hf
      refine hd H3 ((e.trans e2).trans e3) _ fun H4 e4 => ?_
      have e14 := ((e.trans e2).trans e3).trans e4
      have hl4 := e14 _ _ hl0
      have ht4 := e14 _ _ ht0
      refine ⟨.ref p, .ref l, rfl, .inr ⟨p, l, [.ref q0], [.ref t], rfl, rfl, rfl, by simp, .inl ⟨e4 _ _ hp3, hl4⟩, fun j u v hu hv => ?_⟩, fun H5 e5 => q H5 (((e2.trans e3).trans e4).trans e5)⟩
      match j with
      | 0 =>
        obtain rfl : V.ref q0 = u := by simpa using hu
        obtain rfl : V.ref t = v := by simpa using hv
        exact same_strs (n := 2) (xs := [.str (nmE .term), .str x, .int (i : Int)]) rfl (by simp) (.inr ⟨e4 _ _ hq3, ht4⟩)
      | j + 1 => simp at hu
    · have := hs.2 hf w hw
      subst this
      refine hd H3 ((e.trans e2).trans e3) _ fun H4 e4 => ⟨_, _, rfl, SameN.flat (by cases wordSort sorts signs w 9 <;> rfl), fun H5 e5 => q H5 (((e2.trans e3).trans e4).trans e5)⟩
theorem oN_flat (o : Option Nat) : flatS (oN o) = true := by cases o <;> rfl
theorem oN_non (o : Option Nat) : decide (oN o = .non) = decide (o = none) := by
  cases o <;> simp [oN]
theorem scTt : FnScope ["draws", "made", "sorts", "signs", "great", "k", "text", "kind", "place", "due"] ["draws", "made", "sorts", "signs", "great"] (defScope (topS 42)) := ⟨rfl, rfl, rfl, by decide +kernel, rfl, by decide +kernel, by decide +kernel⟩
theorem ok_tt {f ft fx fp fs fo fc : Addr} {fd fdt fdx fdp fds fdo fdc : FuncData} (D : DefAt K mg 42 "_law_texts_told" ["draws", "made", "sorts", "signs", "great"] f fd) (S : SigC K C) (T : TakeAt P w K mg base ft fdt) (TX : GenAt P w K mg base 3 "_law_text" ["draws", "sorts", "signs", "great"] spText fx fdx) (PL : GenAt P w K mg base 3 "_law_place" ["sorts", "signs", "text", "wanted"] spPlace fp fdp) (SM : GenAt P w K mg base 5 "_law_same" ["told", "due"] (spSame 4) fs fds) (SO : GenAt P w K mg base 2 "_law_sort" ["sorts", "signs", "word", "many"] spSort fo fdo) (CK : GenAt P w K mg base 5 "_law_checked" ["made", "text", "kind"] (spChecked C) fc fdc) (N : Nm mg) (M : NmS mg)
    (M1 : MAt P w K mg base C CX0 3 "fault" ["self", "text", "wanted"] (spFault C) [.non]) (M2 : MAt P w K mg base C CX0 3 "fault" ["self", "text", "wanted"] (spFault C) []) : FnOk P w K mg base CX0 6 f fd ["draws", "made", "sorts", "signs", "great"] (spTextsTold C) := by
  obtain ⟨f1, fd1, ds1, m1, F1, b1, v1⟩ := M1
  obtain ⟨f2, fd2, ds2, m2, F2, b2, v2⟩ := M2
  refine D.F.ok scTt (fun vs H Q E h => ?_) (fun cdv A outer s H vs Q E hr h => ?_)
  · obtain ⟨d, rest, rfl, _, ⟨a, b, c, sorts, signs, great, rfl, _⟩, _⟩ := h
    rfl
  · obtain ⟨d, rest, rfl, hd, ⟨a, b, c, sorts, signs, great, rfl, hM, hb, hc, hG⟩, k⟩ := h
    refine ⟨_, (pss_cons (ps_for PassesOwn.never rfl (pi_range1 (by rfl) M.range (pa_cons pe_int pa_nil)) (pg_name (i := 5) scTt.nd rfl (.inl rfl)) (pss_cons (ps_asg (pe_call TX.F (hr.mono (by decide)) (by rfl) TX.g TX.kp TX.b .nil pass0 (pa_cons (pv 0) (pa_cons (pv 2) (pa_cons (pv 3) (pa_cons (pe_and (pv 4) (pe_one (pe_cmpR op_eq (pv 5) pe_int (nomark _)))) pa_nil))))) (pg_name (i := 6) scTt.nd rfl (.inl rfl))) (pss_cons (ps_if (pt_not (pt_val (pe_call SM.F (hr.mono (by decide)) (by rfl) SM.g SM.kp SM.b .nil pass0 (pa_cons (pe_meth (pv 1) S.cl m1 F1 (hr.mono (by decide)) b1 v1 pass0 (pa_cons (pv 6) pa_nil)) (pa_cons (pe_call PL.F (hr.mono (by decide)) (by rfl) PL.g PL.kp PL.b .nil pass0 (pa_cons (pv 2) (pa_cons (pv 3) (pa_cons (pv 6) (pa_cons pe_non pa_nil))))) pa_nil))))) (pss_one (ps_ret pe_bl)) pss_nil) (pss_one (ps_for PassesOwn.never rfl (pi_list (pe_lst (pa_cons pe_non (pa_cons (pe_ix (r := rIxL K) ix_list (pe_ix (r := rIxL K) ix_list (pv 2) pe_int (fun _ _ => rfl)) pe_int (fun _ _ => rfl)) (pa_cons (pe_ix (r := rIxL K) ix_list (pe_ix (r := rIxL K) ix_list (pv 2) (pe_call T.F (hr.mono (by decide)) (by rfl) T.g T.kp T.b .nil pass0 (pa_cons (pv 0) (pa_cons (pe_callB (r := rLenS K) call_len_seq (by rfl) N.len PySem.boot_len (pa_cons (pv 2) pa_nil)) pa_nil))) (fun _ _ => rfl)) pe_int (fun _ _ => rfl)) pa_nil))))) (pg_name (i := 7) scTt.nd rfl (.inl rfl)) (pss_cons (ps_asg (pe_call PL.F (hr.mono (by decide)) (by rfl) PL.g PL.kp PL.b .nil pass0 (pa_cons (pv 2) (pa_cons (pv 3) (pa_cons (pv 6) (pa_cons (pv 7) pa_nil))))) (pg_name (i := 8) scTt.nd rfl (.inl rfl))) (pss_cons (ps_asg (pe_lst (pa_cons (pe_tup (pa_cons pe_str (pa_cons (pv 6) (pa_cons (pv 8) pa_nil)))) pa_nil)) (pg_name (i := 9) scTt.nd rfl (.inl rfl))) (pss_cut (ps_if (pt_cmpR op_isNon (pv 8) pe_non (nomark _)) (pss_one (ps_asg (pe_call SO.F (hr.mono (by decide)) (by rfl) SO.g SO.kp SO.b .nil pass0 (pa_cons (pv 2) (pa_cons (pv 3) (pa_cons (pe_ix (r := rIxL K) ix_list (pe_splitS (pv 6) pe_str) pe_int (fun _ _ => rfl)) (pa_cons pe_int pa_nil))))) (pg_name (i := 9) scTt.nd rfl (.inl rfl)))) pss_nil) (pss_one (ps_if (PW.pt (pw_or (pt_not (pt_val (pe_call SM.F (hr.mono (by decide)) (by rfl) SM.g SM.kp SM.b .nil pass0 (pa_cons (pe_meth (pv 1) S.cl m2 F2 (hr.mono (by decide)) b2 v2 pass0 (pa_cons (pv 6) (pa_cons (pv 7) pa_nil))) (pa_cons (pv 8) pa_nil))))) (pw_or1 (pt_not (pt_val (pe_call SM.F (hr.mono (by decide)) (by rfl) SM.g SM.kp SM.b .nil pass0 (pa_cons (pe_call CK.F (hr.mono (by decide)) (by rfl) CK.g CK.kp CK.b .nil pass0 (pa_cons (pv 1) (pa_cons (pv 6) (pa_cons (pv 7) pa_nil)))) (pa_cons (pv 9) pa_nil)))))))) (pss_one (ps_ret pe_bl)) pss_nil)))))))))) (pss_one (ps_ret pe_bl))), ?_⟩
    have s0 := Sd.of hd
    have hcapB : ∀ r ∈ sorts, capB (tl r.2) = true := fun r hr => (hG.row r hr).2
    have h4 : ∀ g ∈ signs, g.2.1.length ≤ 4 := fun g hg => (hG.sgn g hg).2.1
    refine g_range (j := 5) (n := 4) (d := d) (B := hide H d) (ea_cons ev_c ea_nil) s0 (by decide) (fun i σ' H' => ∃ (B1 : Hp) (u5 u6 u7 u8 u9 : Option V), σ' = [some (.ref d), some (.ref a), some (.ref b), some (.ref c), some (.bl great), u5, u6, u7, u8, u9] ∧ Ex (hide H d) B1 ∧ Sd B1 d H') (fun H1 s1 => ⟨_, _, _, _, _, _, rfl, Ex.refl _, s1⟩) (fun i σ' H1 hi p => ?_) (fun σ' H1 p => ?_)
    · obtain ⟨B1, u5, u6, u7, u8, u9, rfl, e1, s1⟩ := p
      refine gq_asg (R := fun v _ => ∃ x : Str, v = .str x ∧ x.length ≤ 90000) (eg_call (ega_lift (ea_cons (ev_var rfl) (ea_cons (ev_var rfl) (ea_cons (ev_var rfl) (ea_cons (ev_andV (ev_var rfl) fun _ => ev_op (ev_var rfl) ev_c (rv_eq rfl)) ea_nil))))) (fun us B2 H2 _ h e => ⟨[.ref b, .ref c, .bl (great && decide (V.int (i : Int) = V.int 0))], h.1, b, c, sorts, signs, _, rfl, rowsAt_mono hb (e1.trans (by have h2 := h.2; subst h2; exact e)), sgnsAt_mono hc (e1.trans (by have h2 := h.2; subst h2; exact e)), hG⟩) fun rest B1 B2 v _ _ _ h => h) s1 fun v B2 H2 e2 s2 r => ?_
      obtain ⟨x, rfl, hx⟩ := r
      have e02 := e1.trans e2
      obtain ⟨pc, ps, pa, pr, sg, hS⟩ := made_sig (hM.mono e02)
      refine gq_when (b := false) (et_is (et_not (et_B (ev_sameF (n := 4) (oN_flat _) (ev_flt1 hS h4 (ev_var rfl) (ev_var rfl) (by omega)) fun G e => ev_place (k := none) (rowsAt_mono hb (e02.trans e)) (sgnsAt_mono hc (e02.trans e)) hG (ev_var rfl) (ev_var rfl) (ev_var rfl) ev_c hx))) rfl) s2 (fun z => by cases z) (fun _ H3 s3 => ?_)
      refine g_list (B := B2) (d := d) (Rl := fun us _ => ∀ v ∈ us, ∃ k : Option Str, v = oV k) (ok := fun σ' => ∃ u7 u8 u9 : Option V, σ' = [some (.ref d), some (.ref a), some (.ref b), some (.ref c), some (.bl great), some (.int i), some (.str x), u7, u8, u9]) (EvG.sd (eg_lst (Rs := fun us _ => us.length = 3 ∧ ∀ v ∈ us, ∃ k : Option Str, v = oV k) (ega_sd (ega_consV ev_c (ega_consV (ev_row0 (k := 0) (rowsAt_mono hb e02) (List.getElem?_eq_getElem (by have := hG.s1; omega)) (ev_var rfl) ev_c) (ega_one (eg_rowc (v := fun r => .str r.1) row_c0 (rowsAt_mono hb e02) hG.s1 (fun _ => ev_var rfl) (fun _ => ev_var rfl))))) fun us B3 _ h => ?_) fun us B3 h => by rw [h.1]; decide) fun v B3 r => ?_) s3 ⟨_, _, _, rfl⟩ (fun us B3 B4 H4 j y σ' e3 hus e4 s4 hy hok => ?_) (fun B3 H4 σ' e3 s4 hok => ?_)
      · obtain ⟨_, rfl, _, rfl, v, rfl, r, _, rfl⟩ := h
        refine ⟨rfl, fun v hv => ?_⟩
        simp only [List.mem_cons, List.not_mem_nil, or_false] at hv
        rcases hv with rfl | rfl | rfl
        · exact ⟨none, rfl⟩
        · exact ⟨some _, rfl⟩
        · exact ⟨some r.1, rfl⟩
      · obtain ⟨p, us, B4, rfl, _, _, _, rfl, h1, h2⟩ := r
        exact ⟨p, us, rfl, upd_same, h2⟩
      · obtain ⟨kd, rfl⟩ := hus y (List.mem_of_getElem? hy)
        obtain ⟨u7, u8, u9, rfl⟩ := hok
        have e04 := (e02.trans e3).trans e4
        have hb4 := rowsAt_mono hb e04
        have hc4 := sgnsAt_mono hc e04
        refine gq_asg (eg_ev (ev_place (k := kd) hb4 hc4 hG (ev_var rfl) (ev_var rfl) (ev_var rfl) (ev_var rfl) hx)) s4 fun v B5 H5 e5 s5 r => ?_
        subst r
        refine gq_asgN (R := IsL fun us G => ∃ t, us = [.ref t] ∧ G t = some (.tup [.str (nmE .term), .str x, oN (faultOf sorts signs x kd)])) (en_lst (fun us G G' h e => by
          obtain ⟨t, z1, z2⟩ := h
          exact ⟨t, z1, e _ _ z2⟩) ((ena_one (en_tup (Rs := fun us _ => us = [.str (nmE .term), .str x, oN (faultOf sorts signs x kd)]) (fun us G G' h e => h) (ena_ev (ea_cons ev_c (ea_cons (ev_var rfl) (ea_cons (ev_var rfl) ea_nil)))) fun us G h => by rw [h]; simp)).imp fun us G _ h => ?_) fun us G h => by
          obtain ⟨t, rfl, _⟩ := h
          simp) s5 fun v B6 H6 e6 s6 r => ?_
        · obtain ⟨v, rfl, t, ys, rfl, ht, rfl⟩ := h
          exact ⟨t, rfl, ht⟩
        · obtain ⟨l, us2, rfl, hl, t, rfl, ht⟩ := r
          have e46 := e5.trans e6
          have e06 := e04.trans e46
          obtain ⟨w0, hw0⟩ : ∃ w, (Txt.split x (" " : Str))[0]? = some w := ⟨_, List.getElem?_eq_getElem (List.length_pos_iff.mpr split_ne)⟩
          have hwl := Nat.le_trans (split_len (List.mem_of_getElem? hw0)) hx
          refine q_cut (M := fun σ' H' => ∃ (B7 : Hp) (due : V), σ' = [some (.ref d), some (.ref a), some (.ref b), some (.ref c), some (.bl great), some (.int i), some (.str x), some (oV kd), some (oN (faultOf sorts signs x kd)), some due] ∧ Ex B4 B7 ∧ Sd B7 d H' ∧ DueAt B7 sorts signs x kd due) ?_ fun σ' H7 q => ?_
          · refine g_ifP (et_is (et_test (ev_op (ev_var rfl) ev_c rv_isN)) (oN_non _)) s6 (fun hf H7 s7 => ?_) (fun hf H7 s7 => ?_)
            · have hf := of_decide_eq_true hf
              refine g_asg (eg_ev (ev_sort (x := w0) (n := 9) (rowsAt_mono hb e06) (sgnsAt_mono hc e06) hcapB (ev_var rfl) (ev_var rfl) (ev_opL1 (el_split (ev_var rfl) ev_c (by decide) (by omega)) (fun _ _ => ev_c) fun p H3 h3 e3 => rv_ixL (sq_of h3) (atI_nat (j := 0) (by rw [List.getElem?_map, hw0]; rfl))) ev_c (by omega))) s7 fun v B7 H8 e7 s8 r => ?_
              subst r
              refine ⟨B7, _, rfl, e46.trans e7, s8, ⟨fun i hi => (by rw [hf] at hi; cases hi), fun _ w hw => ?_⟩⟩
              rw [hw0] at hw
              rw [Option.some.inj hw]
            · have hf := of_decide_eq_false hf
              refine ⟨B6, _, rfl, e46, s7, ⟨fun i hi => ⟨l, t, rfl, hl, ?_⟩, fun z => absurd z hf⟩⟩
              rw [ht, hi]
              rfl
          · obtain ⟨B7, due, rfl, e7, s7, hdue⟩ := q
            have e07 := e04.trans e7
            obtain ⟨pc, ps, pa, pr, sg, hS⟩ := made_sig (hM.mono e07)
            refine g_ifP (b := false) (et_or (a := false) (b := false) (et_is (et_not (et_B (ev_sameF (n := 4) (oN_flat _) (ev_flt hS h4 (ev_var rfl) (ev_var rfl) (ev_var rfl) (by omega)) fun G e => ev_var rfl))) rfl) fun _ => et_is (et_not (et_B (ev_sameCk (hM.mono e07) hG (ev_var rfl) (ev_var rfl) (ev_var rfl) (ev_var rfl) (by omega) hdue))) rfl) s7 (fun z => by cases z) (fun _ H8 s8 => ?_)
            exact ⟨⟨_, _, _, rfl⟩, B7, e4.trans e7, s8⟩
      · obtain ⟨u7, u8, u9, rfl⟩ := hok
        exact ⟨B3, _, _, _, _, _, rfl, e02.trans e3, s4⟩
    · obtain ⟨B1, u5, u6, u7, u8, u9, rfl, e1, s1⟩ := p
      show tRet (tC (V.bl true)) { nx := fun _ H9 => Q .non H9, rt := Q } [some (.ref d), some (.ref a), some (.ref b), some (.ref c), some (.bl great), u5, u6, u7, u8, u9] H1
      exact s_ret ev_c fun H3 e3 => k _ B1 H3 e1 (s1.mono e3) rfl
end
end K01
-- E33
namespace K01
open PySem PySem.Spec PyProof.Rows L2 Evl KEv TL KDd KSq KSame KTxt KHot KSup KNew KRvT KD KTry
/-! what law keeps -/
section
variable {K : PySem.W.Frag} {σ : L2.St} {B B' H H' : Hp} {d kp b c a : Addr} {C : Addr} {F F2 : Addr → Prop} {sorts : List Row} {signs : List Sgn}
theorem hide_keep {p : Addr} {o : HO} {xs : List V} (hd : H d = some (.lst xs)) (h : H p = some o) (ho : ∀ ys, o ≠ .lst ys) : KD.hide H d p = some o := by
  rw [hide_ne]
  · exact h
  · intro z
    rw [z, hd] at h
    exact ho xs (Option.some.inj h).symm
theorem MadeAt.hide {xs : List V} (h : MadeAt C H a sorts signs) (hd : H d = some (.lst xs)) : MadeAt C (KD.hide H d) a sorts signs := by
  obtain ⟨pc, ps, pa, pr, ts, tg, sg, said, ⟨dx, fs, z1, z2⟩, ⟨dx', fs', z3, z4⟩, z5, z6, z7, z8, z9, z10, ⟨as, t1, t2, t3⟩, ⟨bs, u1, u2, u3⟩, z11⟩ := h
  have kt : ∀ {p : Addr} {ys : List V}, H p = some (.tup ys) → KD.hide H d p = some (.tup ys) := fun h => hide_keep hd h (by intro ys z; cases z)
  have kd : ∀ {p : Addr} {ys : List (Key × V)}, H p = some (.dK ys) → KD.hide H d p = some (.dK ys) := fun h => hide_keep hd h (by intro ys z; cases z)
  have ki : ∀ {p : Addr} {dx : Addr} {fs : List (Str × V)}, H p = some (.ins C dx fs) → KD.hide H d p = some (.ins C dx fs) := fun h => hide_keep hd h (by intro ys z; cases z)
  exact ⟨pc, ps, pa, pr, ts, tg, sg, said, ⟨dx, fs, ki z1, z2⟩, ⟨dx', fs', ki z3, z4⟩, kd z5, kd z6, kd z7, kd z8, z9, fun p hp => kt (z10 p hp), ⟨as, kt t1, t2, fun i p r h4 h5 => kt (t3 i p r h4 h5)⟩, ⟨bs, kt u1, u2, fun i p r h4 h5 => by
    obtain ⟨q, v1, v2⟩ := u3 i p r h4 h5
    exact ⟨q, kt v1, kt v2⟩⟩, z11⟩
/-- a kept row -/
def KRow (C : Addr) (G : Hp) (p : Addr) : Prop := ∃ (a b c : Addr) (sorts : List Row) (signs : List Sgn) (great : Bool), G p = some (.lst [.ref a, .ref b, .ref c, .bl great]) ∧ MadeAt C G a sorts signs ∧ RowsAt RowAt G b sorts ∧ RowsAt SgnAt G c signs ∧ GoodS sorts signs
theorem KRow.mono {p : Addr} (h : KRow C H p) (e : Ex H H') : KRow C H' p := by
  obtain ⟨a, b, c, sorts, signs, great, h1, h2, h3, h4, h5⟩ := h
  exact ⟨a, b, c, sorts, signs, great, e _ _ h1, h2.mono e, rowsAt_mono h3 e, sgnsAt_mono h4 e, h5⟩
def KeptAt (C : Addr) (B : Hp) (kp : Addr) (n : Nat) : Prop := ∃ ps : List Addr, B kp = some (.lst (ps.map V.ref)) ∧ ps.length ≤ n ∧ ∀ p ∈ ps, KRow C (KD.hide B kp) p
theorem KeptAt.mono {n m : Nat} (h : KeptAt C B kp n) (e : Ex B B') (hm : n ≤ m) : KeptAt C B' kp m := by
  obtain ⟨ps, h1, h2, h3⟩ := h
  exact ⟨ps, e _ _ h1, by omega, fun p hp => (h3 p hp).mono (hide_mono e)⟩
/-- what F owns stays apart from what is changed -/
theorem SF.known (h : SF F B b sorts) : SF (fun p => F p ∧ B p ≠ none) B b sorts := by
  obtain ⟨fb, ads, h1, h2, h3⟩ := h
  exact ⟨⟨fb, by rw [h1]; simp⟩, ads, h1, h2, fun i p r h4 h5 => by
    obtain ⟨z1, z2⟩ := h3 i p r h4 h5
    refine ⟨⟨z1, ?_⟩, z2⟩
    rw [hide_ex _ _ z2]
    simp⟩
theorem GF.known (h : GF F B c signs) : GF (fun p => F p ∧ B p ≠ none) B c signs := by
  obtain ⟨fb, ads, h1, h2, h3⟩ := h
  exact ⟨⟨fb, by rw [h1]; simp⟩, ads, h1, h2, fun i p r h4 h5 => by
    obtain ⟨z1, q, z2, z3, z4⟩ := h3 i p r h4 h5
    refine ⟨⟨z1, ?_⟩, q, ⟨z2, ?_⟩, z3, z4⟩
    · rw [hide_ex _ _ z3]
      simp
    · rw [hide_ex _ _ z4]
      simp⟩
theorem hide_of {p q : Addr} {o : HO} (h : KD.hide B q p = some o) : p ≠ q := fun z => by
  rw [z, hide_at] at h
  cases h
theorem SF.apart (h : SF F B b sorts) (hF : ∀ p, F p → ¬ F2 p) (e : ExF F2 B B') : SF F B' b sorts := by
  obtain ⟨fb, ads, h1, h2, h3⟩ := h
  refine ⟨fb, ads, e _ _ (hF _ fb) h1, h2, fun i p r h4 h5 => ?_⟩
  obtain ⟨z1, z2⟩ := h3 i p r h4 h5
  refine ⟨z1, ?_⟩
  have z2 : KD.hide B b p = some (.lst [.str r.1, .str r.2]) := z2
  show KD.hide B' b p = _
  rw [hide_ne (hide_of z2)]
  exact e _ _ (hF _ z1) (hide_ex _ _ z2)
theorem GF.apart (h : GF F B c signs) (hF : ∀ p, F p → ¬ F2 p) (e : ExF F2 B B') : GF F B' c signs := by
  obtain ⟨fb, ads, h1, h2, h3⟩ := h
  refine ⟨fb, ads, e _ _ (hF _ fb) h1, h2, fun i p r h4 h5 => ?_⟩
  obtain ⟨z1, q, z2, z3, z4⟩ := h3 i p r h4 h5
  refine ⟨z1, q, z2, ?_, ?_⟩
  · rw [hide_ne (hide_of z3)]
    exact e _ _ (hF _ z1) (hide_ex _ _ z3)
  · rw [hide_ne (hide_of z4)]
    exact e _ _ (hF _ z2) (hide_ex _ _ z4)
theorem SF.hid (h : SF F B b sorts) (hk : ∀ p, F p → p ≠ kp) : RowsAt RowAt (KD.hide B kp) b sorts := by
  obtain ⟨fb, ads, h1, h2, h3⟩ := h
  refine ⟨ads, by rw [hide_ne (hk _ fb)]; exact h1, h2, fun i p r h4 h5 => ?_⟩
  obtain ⟨z1, z2⟩ := h3 i p r h4 h5
  show KD.hide B kp p = _
  rw [hide_ne (hk _ z1)]
  exact hide_ex _ _ z2
theorem GF.hid (h : GF F B c signs) (hk : ∀ p, F p → p ≠ kp) : RowsAt SgnAt (KD.hide B kp) c signs := by
  obtain ⟨fb, ads, h1, h2, h3⟩ := h
  refine ⟨ads, by rw [hide_ne (hk _ fb)]; exact h1, h2, fun i p r h4 h5 => ?_⟩
  obtain ⟨z1, q, z2, z3, z4⟩ := h3 i p r h4 h5
  refine ⟨q, ?_, ?_⟩
  · rw [hide_ne (hk _ z1)]
    exact hide_ex _ _ z3
  · rw [hide_ne (hk _ z2)]
    exact hide_ex _ _ z4
/-- signs[0] = another -/
theorem GF.set0 {g0 : Sgn} {gs : List Sgn} {n z : Str} {as : List Str} {xs : List V} {p' q' : Addr} (h : GF F B c (g0 :: gs)) (hx : B c = some (.lst xs)) (fp : F p') (fq : F q') (hp : B p' = some (.lst [.str n, .ref q', .str z])) (hq : B q' = some (.lst (as.map V.str))) (np : p' ≠ c) (nq : q' ≠ c) :
    GF F (L2.upd B c (.lst (xs.set 0 (.ref p')))) c ((n, as, z) :: gs) := by
  obtain ⟨fb, ads, h1, h2, h3⟩ := h
  have ex : xs = ads.map V.ref := by
    rw [h1] at hx
    exact (HO.lst.inj (Option.some.inj hx)).symm
  cases ads with
  | nil => simp at h2
  | cons q0 adt =>
    refine ⟨fb, p' :: adt, by rw [upd_same, ex]; rfl, by simpa using h2, fun i p r h4 h5 => ?_⟩
    rw [hide_upd]
    match i with
    | 0 =>
      obtain rfl : p' = p := by simpa using h4
      obtain rfl : (n, as, z) = r := by simpa using h5
      exact ⟨fp, q', fq, by rw [hide_ne np]; exact hp, by rw [hide_ne nq]; exact hq⟩
    | i + 1 => exact h3 (i + 1) p r (by simpa using h4) (by simpa using h5)
theorem sf_of (h : RowsAt (FrRow H) B b sorts) (hb : F b) (hf : ∀ p, H p = none → B p ≠ none → F p) : SF F B b sorts := by
  obtain ⟨ads, h1, h2, h3⟩ := h
  refine ⟨hb, ads, h1, h2, fun i p r h4 h5 => ?_⟩
  obtain ⟨z1, z2⟩ := h3 i p r h4 h5
  have z2 : B p = some (.lst [.str r.1, .str r.2]) := z2
  have pn : p ≠ b := fun z => by
    rw [z, h1] at z2
    have := HO.lst.inj (Option.some.inj z2)
    cases ads with
    | nil => cases this
    | cons x xs => injection this with e1 _; cases e1
  exact ⟨hf p z1 (by rw [z2]; simp), by show KD.hide B b p = _; rw [hide_ne pn]; exact z2⟩
theorem gf_of (h : RowsAt (FrSgn H) B c signs) (hb : F c) (hf : ∀ p, H p = none → B p ≠ none → F p) : GF F B c signs := by
  obtain ⟨ads, h1, h2, h3⟩ := h
  refine ⟨hb, ads, h1, h2, fun i p r h4 h5 => ?_⟩
  obtain ⟨z1, q, z2, z3, z4⟩ := h3 i p r h4 h5
  have pn : p ≠ c := fun z => by
    rw [z, h1] at z3
    have := HO.lst.inj (Option.some.inj z3)
    cases ads with
    | nil => cases this
    | cons x xs => injection this with e1 _; cases e1
  have qn : q ≠ c := fun z => by
    rw [z, h1] at z4
    have := HO.lst.inj (Option.some.inj z4)
    cases ads with
    | nil => cases h4
    | cons x xs =>
      cases ha : r.2.1 with
      | nil => rw [ha] at this; cases this
      | cons y ys => rw [ha] at this; injection this with e1 _; cases e1
  exact ⟨hf p z1 (by rw [z3]; simp), q, hf q z2 (by rw [z4]; simp), by rw [hide_ne pn]; exact z3, by rw [hide_ne qn]; exact z4⟩
end
section
variable {K : PySem.W.Frag} {σ : L2.St} {B H : Hp} {d : Addr} {te ta ti : TE} {tt tu : TT} {tr : TA} {tb tw tz : TS} {D : Ends} {j : Nat}
theorem g_setR {R : V → Hp → Prop} {l : Addr} {xs : List V} {m : Nat} (h : EvG te σ B d R) (ha : ∀ B1, Ev ta σ B1 (.ref l)) (hi : ∀ B1, Ev ti σ B1 (.int (m : Int))) (hm : m < xs.length) (hl : B l = some (.lst xs)) (s : Sd B d H)
    (k : ∀ v B1 H1, Ex B B1 → R v B1 → Sd (L2.upd B1 l (.lst (xs.set m v))) d H1 → D.nx σ H1) : tAsg te (gSub ta ti rSetL) D σ H :=
  h H s _ fun v B1 H1 e1 s1 r => ha B1 H1 s1.ex _ fun H2 e2 => hi B1 H2 (s1.ex.trans e2) _ fun H3 e3 => ⟨l, xs, (m : Int), m, rfl, rfl, ((s1.mono e2).mono e3).ex _ _ (e1 _ _ hl), ixN_nat hm, k v B1 _ e1 r (((s1.mono e2).mono e3).change (e1 _ _ hl))⟩
/-- a range whose end is drawn -/
theorem gq_rangeG {n0 : Nat} (h : EvGA tr σ B d fun us _ => ∃ n : Nat, us = [.int (n : Int)] ∧ n ≤ n0) (s : Sd B d H) (hn0 : n0 ≤ 100000) (Pv : Nat → L2.St → Hp → Prop) (h0 : ∀ B1 H1, Ex B B1 → Sd B1 d H1 → Pv 0 σ H1)
    (hs : ∀ (i : Nat) (σ' : L2.St) (H' : Hp), i < n0 → Pv i σ' H' → tb { D with nx := Pv (i + 1), ct := Pv (i + 1), bk := tz D } (σ'.set j (some (.int (i : Int)))) H') (hd : ∀ (n : Nat) (σ' : L2.St) (H' : Hp), n ≤ n0 → Pv n σ' H' → tz D σ' H') : tSeq (tFor (iRng1 tr) (gName j) tb) tz D σ H :=
  h H s _ fun us B1 H1 e1 s1 r => by
    obtain ⟨n, rfl, hn⟩ := r
    exact q_forR1 (tz := tz) (D := D) (ta := fun _ H Q => Q [.int (n : Int)] H) (n := (n : Int)) (fun H2 e Q q => q H2 (Ex.refl H2)) ⟨by omega, by omega⟩ Pv (fun H2 e2 => h0 B1 H2 e1 (s1.mono e2)) (fun i σ' H' hi p => hs i σ' H' (by omega) p) (fun σ' H' p => hd n σ' H' hn (by simpa using p))
theorem egt_notT (h : EvG te σ B d fun v _ => v = .bl true) : EvGT (tNot (tB te)) σ B d fun b _ => b = false := fun H s Q q => h H s _ fun v B' H' e s' r => ⟨true, r, q _ B' H' e s' rfl⟩
theorem egt_orF (h1 : EvT tt σ B false) (h2 : EvGT tu σ B d fun b _ => b = false) : EvGT (tOr tt tu) σ B d fun b _ => b = false := fun H s Q q =>
  h1 H s.ex _ fun H2 e2 => h2 H2 (s.mono e2) Q q
theorem gq_whenF (h : EvGT tt σ B d fun b _ => b = false) (s : Sd B d H) (k : ∀ B' H', Ex B B' → Sd B' d H' → tz D σ H') : tSeq (tIfS tt tw tNext) tz D σ H := h H s _ fun b B' H' e s' r => by
  subst r
  exact k B' H' e s'
theorem g_whenF (h : EvGT tt σ B d fun b _ => b = false) (s : Sd B d H) (k : ∀ B' H', Ex B B' → Sd B' d H' → D.nx σ H') : tIfS tt tw tNext D σ H := h H s _ fun b B' H' e s' r => by
  subst r
  exact k B' H' e s'
/-- a drawn number among written ones -/
theorem eg_pick {td : TE} {tl : TA} {E : XK} {n m : Nat} {ns : List Nat} (h : EvA tl σ B (ns.map fun x : Nat => V.int (x : Int))) (hn : ns.length = n) (h0 : 0 < n) (h9 : n ≤ 100) (hm : ∀ x ∈ ns, x ≤ m) (hd : ∀ B1, Ev td σ B1 (.ref d)) :
    EvG (tOp (rIxL K) (tLst tl) (tCall spTake [] E (tCons td (tCons (tC (.int (n : Int))) tNil)))) σ B d fun v _ => ∃ x : Nat, v = .int (x : Int) ∧ x ∈ ns :=
  eg_itemN (n := (n : Int)) (Pv := fun v => ∃ x : Nat, v = .int (x : Int) ∧ x ∈ ns) (EvG.sd (eg_liftL (el_lst h (by rw [List.length_map]; omega))) fun v B' r => by
    obtain ⟨p, rfl, _, _, rfl⟩ := r
    exact ⟨p, _, rfl, upd_same, by rw [List.length_map]; omega, fun v hv => by
      obtain ⟨x, hx, rfl⟩ := List.mem_map.mp hv
      exact ⟨x, rfl, hx⟩⟩) fun B1 => eg_takeN (hd B1) ev_c (by omega)
end
end K01
-- E34
namespace K01
open PySem PySem.Spec PyProof.Rows L2 Evl KEv TL KDd KSq KSame KTxt KHot KSup KNew KRvT KD KTry
/-! law -/
theorem ex_ne {B B' : Hp} {p : Addr} (e : Ex B B') (h : B p ≠ none) : B' p ≠ none := fun z => h (fresh_back e z)
theorem upd_some {B : Hp} {p q : Addr} {o : HO} (h : B p ≠ none) : L2.upd B q o p ≠ none := by
  by_cases z : p = q
  · rw [z, upd_same]
    simp
  · rw [upd_ne z]
    exact h
theorem exF_ne {F : Addr → Prop} {B B' : Hp} {p : Addr} (e : ExF F B B') (hf : ¬ F p) (h : B p ≠ none) : B' p ≠ none := by
  cases hp : B p with
  | none => exact absurd hp h
  | some o =>
    rw [e p o hf hp]
    simp
section
variable {P : Program} {w : World} {K : PySem.W.Frag} {mg : Str → Option Value} {base : Heap} {σ : L2.St} {H B : Hp} {d : Addr} {C : Addr}
theorem s_dropC {sp : Sp} {dvs vs : List V} {E : XK} {t : TA} {D : Ends} (h : EvA t σ H vs) (k : ∀ H1, Ex H H1 → sp (vs ++ dvs) H1 (fun _ H2 => D.nx σ H2) E) : tDrop (tCall sp dvs E t) D σ H := h H (Ex.refl H) _ fun H1 e => k H1 e
theorem q_asgC {sp : Sp} {dvs vs : List V} {E : XK} {t : TA} {D : Ends} {tz : TS} {i : Nat} (h : EvA t σ H vs) (k : ∀ H1, Ex H H1 → sp (vs ++ dvs) H1 (fun v H2 => tz D (σ.set i (some v)) H2) E) : tSeq (tAsg (tCall sp dvs E t) (gName i)) tz D σ H := h H (Ex.refl H) _ fun H1 e => k H1 e
def spLaw (K : PySem.W.Frag) : Sp := fun vs H Q _ => ∃ (a : Addr) (ns : List Int), vs = [.ref a] ∧ SqL K H a (ns.map V.int) ∧ ∀ H', Q (.bl true) H'
theorem scLaw : FnScope ["script", "draws", "kept", "k", "great", "sorts", "signs", "j", "way", "told", "row"] ["script"] (defScope (topS 44)) := ⟨rfl, rfl, rfl, by decide +kernel, rfl, by decide +kernel, by decide +kernel⟩
theorem ok_law {f fdr ft fss fsg fxs fxg fha fnt fwt ftt : Addr} {fd fddr fdt fdss fdsg fdxs fdxg fdha fdnt fdwt fdtt : FuncData} (D : DefAt K mg 44 "law" ["script"] f fd) (DR : GenAt P w K mg base 1 "_law_draws" ["script", "first", "cells"] (spDraws K) fdr fddr) (T : TakeAt P w K mg base ft fdt) (SS : GenAt P w K mg base 4 "_law_sorts" ["draws", "many"] spSorts fss fdss) (SG : GenAt P w K mg base 4 "_law_signs" ["draws", "sorts", "many"] spSigns fsg fdsg) (XS : GenAt P w K mg base 5 "_law_spoil_sorts" ["draws", "sorts", "way"] spSpoilS fxs fdxs) (XG : GenAt P w K mg base 4 "_law_spoil_signs" ["draws", "signs", "way"] spSpoilG fxg fdxg) (HA : GenAt P w K mg base 6 "_law_handed" ["sorts", "signs"] (spHanded C) fha fdha) (NT : GenAt P w K mg base 6 "_law_names_told" ["made", "sorts", "signs"] (spNamesTold C) fnt fdnt) (WT : GenAt P w K mg base 6 "_law_words_told" ["draws", "made", "sorts", "signs"] (spWordsTold C) fwt fdwt) (TT : GenAt P w K mg base 6 "_law_texts_told" ["draws", "made", "sorts", "signs", "great"] (spTextsTold C) ftt fdtt) (N : Nm mg) (M : NmS mg) : FnOk P w K mg base CX0 7 f fd ["script"] (spLaw K) := by
  refine D.F.ok scLaw (fun vs H Q E h => ?_) (fun cdv A outer s H vs Q E hr h => ?_)
  · obtain ⟨a, ns, rfl, _⟩ := h
    rfl
  · obtain ⟨a, ns, rfl, hS0, k⟩ := h
    refine ⟨_, (pss_cons (ps_asg (pe_call DR.F (hr.mono (by decide)) (by rfl) DR.g DR.kp DR.b .nil pass0 (pa_cons (pv 0) (pa_cons pe_int (pa_cons pe_int pa_nil)))) (pg_name (i := 1) scLaw.nd rfl (.inl rfl))) (pss_cons (ps_asg (pe_lst pa_nil) (pg_name (i := 2) scLaw.nd rfl (.inl rfl))) (pss_cons (ps_for PassesOwn.never rfl (pi_range1 (by rfl) M.range (pa_cons pe_int pa_nil)) (pg_name (i := 3) scLaw.nd rfl (.inl rfl)) (pss_cons (ps_asg (pe_cmpR op_eq (pe_call T.F (hr.mono (by decide)) (by rfl) T.g T.kp T.b .nil pass0 (pa_cons (pv 1) (pa_cons pe_int pa_nil))) pe_int (nomark _)) (pg_name (i := 4) scLaw.nd rfl (.inl rfl))) (pss_cons (ps_asg (pe_call SS.F (hr.mono (by decide)) (by rfl) SS.g SS.kp SS.b .nil pass0 (pa_cons (pv 1) (pa_cons (pe_ix (r := rIxL K) ix_list (pe_lst (pa_cons pe_int (pa_cons pe_int (pa_cons pe_int (pa_cons pe_int (pa_cons pe_int pa_nil)))))) (pe_call T.F (hr.mono (by decide)) (by rfl) T.g T.kp T.b .nil pass0 (pa_cons (pv 1) (pa_cons pe_int pa_nil))) (fun _ _ => rfl)) pa_nil))) (pg_name (i := 5) scLaw.nd rfl (.inl rfl))) (pss_cons (ps_asg (pe_call SG.F (hr.mono (by decide)) (by rfl) SG.g SG.kp SG.b .nil pass0 (pa_cons (pv 1) (pa_cons (pv 5) (pa_cons (pe_ix (r := rIxL K) ix_list (pe_lst (pa_cons pe_int (pa_cons pe_int (pa_cons pe_int (pa_cons pe_int (pa_cons pe_int pa_nil)))))) (pe_call T.F (hr.mono (by decide)) (by rfl) T.g T.kp T.b .nil pass0 (pa_cons (pv 1) (pa_cons pe_int pa_nil))) (fun _ _ => rfl)) pa_nil)))) (pg_name (i := 6) scLaw.nd rfl (.inl rfl))) (pss_cut (ps_if (PW.pt (pw_and (pt_val (pv 4)) (pw_and1 (pt_tru (pv 6))))) (pss_one (ps_asg (pe_lst (pa_cons (pe_ix (r := rIxL K) ix_list (pe_ix (r := rIxL K) ix_list (pv 6) pe_int (fun _ _ => rfl)) pe_int (fun _ _ => rfl)) (pa_cons (pe_lst (pa_cons (pe_ix (r := rIxL K) ix_list (pe_ix (r := rIxL K) ix_list (pv 5) pe_int (fun _ _ => rfl)) pe_int (fun _ _ => rfl)) pa_nil)) (pa_cons (pe_ix (r := rIxL K) ix_list (pe_ix (r := rIxL K) ix_list (pv 5) pe_int (fun _ _ => rfl)) pe_int (fun _ _ => rfl)) pa_nil)))) (pg_sub (pv 6) pe_int set_list))) pss_nil) (pss_cons (ps_for PassesOwn.never rfl (pi_range1 (by rfl) M.range (pa_cons (pe_op op_mul (pe_callTy call_intI (by rfl) M.int (by decide +kernel) (pa_cons (pe_cmpR op_gt (pv 3) pe_int (nomark _)) pa_nil)) (pe_ix (r := rIxL K) ix_list (pe_lst (pa_cons pe_int (pa_cons pe_int (pa_cons pe_int (pa_cons pe_int pa_nil))))) (pe_call T.F (hr.mono (by decide)) (by rfl) T.g T.kp T.b .nil pass0 (pa_cons (pv 1) (pa_cons pe_int pa_nil))) (fun _ _ => rfl))) pa_nil)) (pg_name (i := 7) scLaw.nd rfl (.inl rfl)) (pss_cons (ps_asg (pe_call T.F (hr.mono (by decide)) (by rfl) T.g T.kp T.b .nil pass0 (pa_cons (pv 1) (pa_cons pe_int pa_nil))) (pg_name (i := 8) scLaw.nd rfl (.inl rfl))) (pss_one (ps_if (PW.pt (pw_and (pt_cmpR op_lt (pv 8) pe_int (nomark _)) (pw_and1 (pt_tru (pv 5))))) (pss_one (ps_expr (pe_call XS.F (hr.mono (by decide)) (by rfl) XS.g XS.kp XS.b .nil pass0 (pa_cons (pv 1) (pa_cons (pv 5) (pa_cons (pv 8) pa_nil)))))) (pss_one (ps_if (pt_tru (pv 6)) (pss_one (ps_expr (pe_call XG.F (hr.mono (by decide)) (by rfl) XG.g XG.kp XG.b .nil pass0 (pa_cons (pv 1) (pa_cons (pv 6) (pa_cons (pe_op op_add pe_int (pe_op op_modN (pe_callTy call_intI (by rfl) M.int (by decide +kernel) (pa_cons (pv 8) pa_nil)) pe_int)) pa_nil)))))) pss_nil)))))) (pss_cons (ps_asg (pe_call HA.F (hr.mono (by decide)) (by rfl) HA.g HA.kp HA.b .nil pass0 (pa_cons (pv 5) (pa_cons (pv 6) pa_nil))) (pg_name (i := 9) scLaw.nd rfl (.inl rfl))) (pss_cons (ps_if (pt_not (pt_val (pe_ix (r := rIxL K) ix_list (pv 9) pe_int (fun _ _ => rfl)))) (pss_one (ps_ret pe_bl)) pss_nil) (pss_one (ps_if (pt_cmpR op_notNon (pe_ix (r := rIxL K) ix_list (pv 9) pe_int (fun _ _ => rfl)) pe_non (nomark _)) (pss_one (ps_expr (pe_bm PySem.F.plainAttrs_list PySem.F.slot_list_append PySem.F.type_list_append mt_append (pv 2) (pa_cons (pe_lst (pa_cons (pe_ix (r := rIxL K) ix_list (pv 9) pe_int (fun _ _ => rfl)) (pa_cons (pv 5) (pa_cons (pv 6) (pa_cons (pv 4) pa_nil))))) pa_nil)))) pss_nil)))))))))) (pss_cons (ps_for PassesOwn.never rfl (pi_list (pv 2)) (pg_name (i := 10) scLaw.nd rfl (.inl rfl)) (pss_cons (ps_if (PW.pt (pw_or (pt_not (pt_val (pe_call NT.F (hr.mono (by decide)) (by rfl) NT.g NT.kp NT.b .nil pass0 (pa_cons (pe_ix (r := rIxL K) ix_list (pv 10) pe_int (fun _ _ => rfl)) (pa_cons (pe_ix (r := rIxL K) ix_list (pv 10) pe_int (fun _ _ => rfl)) (pa_cons (pe_ix (r := rIxL K) ix_list (pv 10) pe_int (fun _ _ => rfl)) pa_nil)))))) (pw_or1 (pt_not (pt_val (pe_call WT.F (hr.mono (by decide)) (by rfl) WT.g WT.kp WT.b .nil pass0 (pa_cons (pv 1) (pa_cons (pe_ix (r := rIxL K) ix_list (pv 10) pe_int (fun _ _ => rfl)) (pa_cons (pe_ix (r := rIxL K) ix_list (pv 10) pe_int (fun _ _ => rfl)) (pa_cons (pe_ix (r := rIxL K) ix_list (pv 10) pe_int (fun _ _ => rfl)) pa_nil)))))))))) (pss_one (ps_ret pe_bl)) pss_nil) (pss_one (ps_if (pt_not (pt_val (pe_call TT.F (hr.mono (by decide)) (by rfl) TT.g TT.kp TT.b .nil pass0 (pa_cons (pv 1) (pa_cons (pe_ix (r := rIxL K) ix_list (pv 10) pe_int (fun _ _ => rfl)) (pa_cons (pe_ix (r := rIxL K) ix_list (pv 10) pe_int (fun _ _ => rfl)) (pa_cons (pe_ix (r := rIxL K) ix_list (pv 10) pe_int (fun _ _ => rfl)) (pa_cons (pe_ix (r := rIxL K) ix_list (pv 10) pe_int (fun _ _ => rfl)) pa_nil)))))))) (pss_one (ps_ret pe_bl)) pss_nil)))) (pss_cons (ps_for PassesOwn.never rfl (pi_list (pv 2)) (pg_name (i := 10) scLaw.nd rfl (.inl rfl)) (pss_one (ps_if (PW.pt (pw_or (pt_not (pt_val (pe_call NT.F (hr.mono (by decide)) (by rfl) NT.g NT.kp NT.b .nil pass0 (pa_cons (pe_ix (r := rIxL K) ix_list (pv 10) pe_int (fun _ _ => rfl)) (pa_cons (pe_ix (r := rIxL K) ix_list (pv 10) pe_int (fun _ _ => rfl)) (pa_cons (pe_ix (r := rIxL K) ix_list (pv 10) pe_int (fun _ _ => rfl)) pa_nil)))))) (pw_or1 (pt_not (pt_val (pe_call TT.F (hr.mono (by decide)) (by rfl) TT.g TT.kp TT.b .nil pass0 (pa_cons (pv 1) (pa_cons (pe_ix (r := rIxL K) ix_list (pv 10) pe_int (fun _ _ => rfl)) (pa_cons (pe_ix (r := rIxL K) ix_list (pv 10) pe_int (fun _ _ => rfl)) (pa_cons (pe_ix (r := rIxL K) ix_list (pv 10) pe_int (fun _ _ => rfl)) (pa_cons pe_bl pa_nil))))))))))) (pss_one (ps_ret pe_bl)) pss_nil))) (pss_one (ps_ret pe_bl))))))), ?_⟩
    refine ⟨.ref a, rfl, a, ns, rfl, hS0, fun d H1 xs hd0 e1 h1 gd => ?_⟩
    have dr1 : Dr H1 d := ⟨xs, gd, h1⟩
    refine gq_asg (B := KD.hide H1 d) (d := d) (eg_liftL (el_lst ea_nil (by decide))) (Sd.of dr1) fun v B2 H2 e2 s2 r => ?_
    obtain ⟨kp, rfl, nkp, kpd, rfl⟩ := r
    have hK0 : KeptAt C (L2.upd (KD.hide H1 d) kp (.lst [])) kp 0 := ⟨[], upd_same, Nat.le_refl _, fun p hp => by cases hp⟩
    generalize (L2.upd (KD.hide H1 d) kp (.lst [])) = B2 at e2 s2 hK0
    have item : ∀ {G : Hp} {σ : L2.St} {p : Addr} {us : List V} {j i : Nat} {v : V}, σ[i]? = some (some (.ref p)) → G p = some (.lst us) → us[j]? = some v → Ev (tOp (rIxL K) (tVar i) (tC (.int (j : Int)))) σ G v := fun hi hp hv => ev_op (ev_var hi) ev_c (rv_ixL (sq_of hp) (atI_nat hv))
    refine g_range (j := 3) (n := 3) (d := d) (B := B2) (ea_cons ev_c ea_nil) s2 (by decide) (fun i σ' H' => ∃ (B3 : Hp) (u3 u4 u5 u6 u7 u8 u9 : Option V), σ' = [some (.ref a), some (.ref d), some (.ref kp), u3, u4, u5, u6, u7, u8, u9, none] ∧ Sd B3 d H' ∧ KeptAt C B3 kp i) (fun H3 s3 => ⟨_, _, _, _, _, _, _, _, rfl, s3, hK0⟩) (fun i σ' H3 hi p => ?_) (fun σ' H3 p => ?_)
    · obtain ⟨B3, u3, u4, u5, u6, u7, u8, u9, rfl, s3, hK⟩ := p
      refine gq_asg (R := fun v _ => ∃ g, v = .bl g) (eg_opW (Rb := fun v _ => ∃ n : Nat, v = .int (n : Int) ∧ (n : Int) < 8) (eg_takeN (m := 8) (ev_var rfl) ev_c (by decide)) (fun _ _ _ _ => ev_c) fun v _ _ r => ?_) s3 fun v B4 H4 e4 s4 r => ?_
      · obtain ⟨n, rfl, _⟩ := r
        exact ⟨_, rv_eq rfl, _, rfl⟩
      obtain ⟨g, rfl⟩ := r
      have hK4 := hK.mono e4 (Nat.le_refl _)
      obtain ⟨ps, hkp, hpl, hpk⟩ := id hK4
      refine gq_asg (eg_callF1 (ev_var rfl) (eg_pick (n := 5) (m := 8) (ns := [1, 2, 3, 4, 8]) (ea_cons ev_c (ea_cons ev_c (ea_cons ev_c (ea_cons ev_c (ea_cons ev_c ea_nil))))) rfl (by decide) (by decide) (by decide) (fun _ => ev_var rfl)) (fun v B5 H5 _ r _ => by
        obtain ⟨x, rfl, hx⟩ := r
        exact ⟨x, rfl, by simp at hx; omega⟩)) s4 fun v B5 H5 e5 s5 r => ?_
      obtain ⟨_, Ba, Bh, ea, ⟨m, rfl, hm⟩, eb, ec, b, sorts, rfl, hbn, hrows, hlen, hsz⟩ := r
      have hln : m = sorts.length := by
        injection hlen with z1 _
        injection z1 with z1
        omega
      have hm1 : 1 ≤ m ∧ m ≤ 8 := by simp at hm; omega
      have e4h : Ex B4 Bh := ea.trans eb
      have hb5 : SF (fun p => B4 p = none ∧ B5 p ≠ none) B5 b sorts := sf_of hrows ⟨fresh_back e4h hbn, by
        obtain ⟨ads, z1, _⟩ := hrows
        rw [z1]
        simp⟩ fun p z1 z2 => ⟨fresh_back e4h z1, z2⟩
      refine gq_asg (R := fun v B6 => ∃ Bh c signs, v = .ref c ∧ Ex B5 Bh ∧ Bh c = none ∧ RowsAt (FrSgn Bh) B6 c signs ∧ signs.length ≤ 12 ∧ SzG 4 signs) (eg_callF (Rs := fun us _ => ∃ m : Nat, us = [.ref d, .ref b, .int (m : Int)] ∧ m ≤ 12) (ega_sd (ega_consV (ev_var rfl) (ega_consV (ev_var rfl) (ega_one (eg_pick (n := 5) (m := 12) (ns := [0, 1, 2, 5, 12]) (ea_cons ev_c (ea_cons ev_c (ea_cons ev_c (ea_cons ev_c (ea_cons ev_c ea_nil))))) rfl (by decide) (by decide) (by decide) (fun _ => ev_var rfl))))) fun us B6 _ h => ?_) (fun us B6 H6 e6 h e7 => ?_) fun rest B6 Bh B7 v e6 h eh e7 hc => ?_) s5 fun v B6 H6 e6 s6 r => ?_
      · obtain ⟨_, rfl, _, rfl, v, rfl, x, rfl, hx⟩ := h
        exact ⟨x, rfl, by simp at hx; omega⟩
      · obtain ⟨m', rfl, hm'⟩ := h
        exact ⟨_, rfl, b, sorts, m', rfl, rowsAt_mono hb5.rows (e6.trans e7), by omega, by omega, hsz, by omega⟩
      · obtain ⟨m', em, hm'⟩ := h
        obtain ⟨c, signs, rfl, hcn, hr, hl, hz⟩ := hc
        obtain rfl : rest = [.ref b, .int (m' : Int)] := (List.cons.inj em).2
        have hl : (V.int (m' : Int)) = .int (signs.length : Int) := Option.some.inj hl
        injection hl with hl
        exact ⟨Bh, c, signs, rfl, e6.trans eh, hcn, hr, by omega, hz⟩
      obtain ⟨Bh2, c, signs, rfl, e5h, hcn, hrG, hlG, hzG⟩ := r
      have c5 : B5 c = none := fresh_back e5h hcn
      have hc6 : GF (fun p => B5 p = none ∧ B6 p ≠ none) B6 c signs := gf_of hrG ⟨c5, by
        obtain ⟨ads, z1, _⟩ := hrG
        rw [z1]
        simp⟩ fun p z1 z2 => ⟨fresh_back e5h z1, z2⟩
      refine q_cut (M := fun σ' H' => ∃ (B7 : Hp) (signs' : List Sgn), σ' = [some (.ref a), some (.ref d), some (.ref kp), some (.int i), some (.bl g), some (.ref b), some (.ref c), u7, u8, u9, none] ∧ Ex B5 B7 ∧ Sd B7 d H' ∧ GF (fun p => B5 p = none ∧ B7 p ≠ none) B7 c signs' ∧ signs'.length ≤ 12 ∧ SzG 5 signs') ?_ fun σ' H7 q => ?_
      · obtain ⟨gds, hcl, hcn', _⟩ := hc6.rows
        have z5 : SzG 5 signs := fun x hx => by
          have := hzG x hx
          exact ⟨this.1, by omega, this.2.2⟩
        refine g_ifP (et_and (et_B (ev_var rfl)) fun _ => et_truL (ev_var rfl) (sq_of hcl)) s6 (fun hb H7 s7 => ?_) (fun _ H7 s7 => ⟨B6, signs, rfl, e6, s7, hc6, hlG, z5⟩)
        cases signs with
        | nil =>
          have : gds = [] := List.length_eq_zero_iff.mp hcn'
          subst this
          simp at hb
        | cons g0 gs =>
          obtain ⟨r0, er0⟩ : ∃ r, sorts[0]? = some r := ⟨_, List.getElem?_eq_getElem (by omega)⟩
          have rb : ∀ {G : Hp}, Ex B6 G → RowsAt RowAt G b sorts := fun e => rowsAt_mono hb5.rows (e6.trans e)
          refine g_setR (m := 0) (xs := gds.map V.ref) (R := fun v G => ∃ p' q', v = .ref p' ∧ B6 p' = none ∧ B6 q' = none ∧ G p' = some (.lst [.str g0.1, .ref q', .str r0.1]) ∧ G q' = some (.lst ([r0.1].map V.str))) (eg_new ((en_lstF (Rs := fun us G => ∃ q', us = [.str g0.1, .ref q', .str r0.1] ∧ B6 q' = none ∧ G q' = some (.lst ([r0.1].map V.str))) (fun us G G' h e => by
            obtain ⟨q', z1, z2, z3⟩ := h
            exact ⟨q', z1, z2, e _ _ z3⟩) ((ena_consV (ev_sgn0 (k := 0) (g := g0) hc6.rows rfl (ev_var rfl) ev_c) (ena_cons (Rr := fun _ us _ => us = [.str r0.1]) (Rw := fun us G => ∃ q', us = [.ref q', .str r0.1] ∧ B6 q' = none ∧ G q' = some (.lst ([r0.1].map V.str))) (en_elF (xs := [r0.1].map V.str) (el_lst (ea_cons (ev_row0 (k := 0) (rb (Ex.refl _)) er0 (ev_var rfl) ev_c) ea_nil) (by simp))) (fun v G e r => ena_ev (ea_cons (ev_row0 (k := 0) (rb e) er0 (ev_var rfl) ev_c) ea_nil)) fun v vs G G' r e r' => ?_)).imp fun us G _ h => ?_) fun us G h => ?_).imp fun v G _ h => ?_)) (fun _ => ev_var rfl) (fun _ => ev_c) (by rw [List.length_map, hcn']; simp) hcl s7 fun v B8 H8 e8 r s8 => ?_
          · obtain ⟨q', ys, rfl, z1, z2, rfl⟩ := r
            exact ⟨q', by rw [r'], z1, e _ _ z2⟩
          · obtain ⟨_, rfl, q', rfl, z1, z2⟩ := h
            exact ⟨q', rfl, z1, z2⟩
          · obtain ⟨q', rfl, _⟩ := h
            simp
          · obtain ⟨p', ys, rfl, z1, z2, q', rfl, z3, z4⟩ := h
            exact ⟨p', q', rfl, z1, z3, z2, z4⟩
          · obtain ⟨p', q', rfl, np, nq, hp', hq'⟩ := r
            have c6 : B6 c ≠ none := by rw [hcl]; simp
            refine ⟨_, (g0.1, [r0.1], r0.1) :: gs, rfl, (e6.trans e8).mut c5, s8, GF.set0 (g0 := g0) ((hc6.mono e8).wide fun p z => ⟨z.1, upd_some (ex_ne e8 z.2)⟩) (e8 _ _ hcl) ⟨fresh_back e6 np, upd_some (by rw [hp']; simp)⟩ ⟨fresh_back e6 nq, upd_some (by rw [hq']; simp)⟩ hp' hq' (fun z => c6 (z ▸ np)) (fun z => c6 (z ▸ nq)), hlG, fun x hx => ?_⟩
            rcases List.mem_cons.mp hx with rfl | hx
            · have y1 := z5 g0 List.mem_cons_self
              have y2 := hsz r0 (List.mem_of_getElem? er0)
              exact ⟨y1.1, by simp, y2.1⟩
            · exact z5 x (List.mem_cons_of_mem _ hx)
      obtain ⟨B7, gs1, rfl, e57, s7, hG7, l7, z7⟩ := q
      have hS7 := hb5.mono e57
      obtain ⟨t, ht, htE⟩ : ∃ t : Int, (t = 0 ∨ t = 1) ∧ Ev (tCB rInt1 (tCons (tOp (rI0 fun a b => .bl (decide (a > b))) (tVar 3) (tC (.int 0))) tNil)) [some (.ref a), some (.ref d), some (.ref kp), some (.int i), some (.bl g), some (.ref b), some (.ref c), u7, u8, u9, none] B7 (.int t) := ⟨_, (by split <;> simp), ev_cb (ea_cons (ev_op (ev_var rfl) ev_c rv_I0) ea_nil) rc_intB⟩
      refine gq_rangeG (n0 := 2) (B := B7) (d := d) (ega_sd (ega_one (eg_opV (R := fun v _ => ∃ n : Nat, v = .int (n : Int) ∧ n ≤ 2) htE (eg_pick (n := 4) (m := 2) (ns := [0, 1, 1, 2]) (ea_cons ev_c (ea_cons ev_c (ea_cons ev_c (ea_cons ev_c ea_nil)))) rfl (by decide) (by decide) (by decide) (fun _ => ev_var rfl)) fun y B8 _ hy => ?_)) fun us B8 _ h => ?_) s7 (by decide)
        (fun jn σ' H' => ∃ (Bc : Hp) (ss : List Row) (gg : List Sgn) (FS FG : Addr → Prop) (u7 u8 : Option V), σ' = [some (.ref a), some (.ref d), some (.ref kp), some (.int i), some (.bl g), some (.ref b), some (.ref c), u7, u8, u9, none] ∧ Ex B4 Bc ∧ Sd Bc d H' ∧ SF FS Bc b ss ∧ GF FG Bc c gg ∧ (∀ p, FS p → B4 p = none ∧ Bc p ≠ none) ∧ (∀ p, FG p → B4 p = none ∧ Bc p ≠ none) ∧ (∀ p, FS p → ¬ FG p) ∧ ss.length ≤ 9 ∧ gg.length ≤ 13 ∧ SzR ss ∧ SzG (5 + jn) gg)
        (fun B8 H8 e8 s8 => ⟨B8, sorts, gs1, _, _, _, _, rfl, (e5.trans e57).trans e8, s8, hS7.mono e8, hG7.mono e8, fun p z => ⟨z.1, ex_ne (e57.trans e8) z.2⟩, fun p z => ⟨fresh_back e5 z.1, ex_ne e8 z.2⟩, fun p z1 z2 => z1.2 z2.1, by omega, by omega, hsz, z7⟩) (fun jn σ' H8 hj p => ?_) (fun n σ' H8 hn p => ?_)
      · obtain ⟨x, rfl, hx⟩ := hy
        have hx2 : x ≤ 2 := by simp at hx; omega
        refine ⟨_, rv_I (.inr ⟨by omega, by omega⟩), ?_⟩
        rcases ht with rfl | rfl
        · exact ⟨0, by simp, by omega⟩
        · exact ⟨x, by simp, hx2⟩
      · obtain ⟨v, rfl, n, rfl, hn⟩ := h
        exact ⟨n, rfl, hn⟩
      · obtain ⟨Bc, ss, gg, FS, FG, u7', u8', rfl, ec4, sc, hS, hGf, fS, fG, dis, ls, lg, zs, zg⟩ := p
        refine gq_asg (eg_takeN (m := 12) (ev_var rfl) ev_c (by decide)) sc fun v B9 H9 e9 s9 r => ?_
        obtain ⟨way, rfl, hw⟩ := r
        obtain ⟨ads, hbl, hbnn, _⟩ := (hS.mono e9).rows
        obtain ⟨gds, hcl, hcnn, _⟩ := (hGf.mono e9).rows
        have zg1 : SzG (5 + (jn + 1)) gg := fun x hx => by
          have := zg x hx
          exact ⟨this.1, by omega, this.2.2⟩
        refine g_ifP (et_and (et_test (ev_op (ev_var rfl) ev_c rv_I0)) fun _ => et_truL (ev_var rfl) (sq_of hbl)) s9 (fun hb H10 s10 => ?_) (fun _ H10 s10 => ?_)
        · have h1 : 1 ≤ ss.length := by
            rw [← hbnn]
            cases ads with
            | nil => simp at hb
            | cons _ _ => simp
          refine s_dropC (vs := [.ref d, .ref b, .int (way : Int)]) (ea_cons (ev_var rfl) (ea_cons (ev_var rfl) (ea_cons (ev_var rfl) ea_nil))) fun H11 e11 => ?_
          have s11 := s10.mono e11
          have eBh : Ex Bc (KD.hide H11 d) := e9.trans s11.below
          refine ⟨d, b, (way : Int), ss, FS, rfl, s11.dr, hS.mono eBh, h1, ls, zs, fun B' H' ss' FS' eF sF hS' hF' l' z' => ?_⟩
          refine ⟨B', ss', gg, fun p => FS' p ∧ B' p ≠ none, FG, _, _, rfl, fun p o z => eF p o (fun zz => by rw [(fS p zz).1] at z; cases z) (eBh _ _ (ec4 _ _ z)), sF, hS'.known, (hGf.mono eBh).apart (fun p z1 z2 => dis p z2 z1) eF, fun p z => ⟨?_, z.2⟩, fun p z => ⟨(fG p z).1, exF_ne eF (fun zz => dis p zz z) (ex_ne eBh (fG p z).2)⟩, fun p z1 z2 => ?_, l', lg, z', zg1⟩
          · rcases hF' p z.1 with zz | zz
            · exact (fS p zz).1
            · exact fresh_back (ec4.trans eBh) zz
          · rcases hF' p z1.1 with zz | zz
            · exact dis p zz z2
            · exact ex_ne eBh (fG p z2).2 zz
        · refine g_ifP (et_truL (ev_var rfl) (sq_of hcl)) s10 (fun hb H11 s11 => ?_) (fun _ H11 s11 => ⟨B9, ss, gg, FS, FG, _, _, rfl, ec4.trans e9, s11, hS.mono e9, hGf.mono e9, fun p z => ⟨(fS p z).1, ex_ne e9 (fS p z).2⟩, fun p z => ⟨(fG p z).1, ex_ne e9 (fG p z).2⟩, dis, ls, lg, zs, zg1⟩)
          have h1 : 1 ≤ gg.length := by
            rw [← hcnn]
            cases gds with
            | nil => simp at hb
            | cons _ _ => simp
          refine s_dropC (ea_cons (ev_var rfl) (ea_cons (ev_var rfl) (ea_cons (ev_op ev_c (ev_op (ev_cb (ea_cons (ev_var rfl) ea_nil) rc_intI) ev_c (rv_I (by decide))) rv_I0) ea_nil))) fun H12 e12 => ?_
          have s12 := s11.mono e12
          have eBh : Ex Bc (KD.hide H12 d) := e9.trans s12.below
          refine ⟨d, c, _, gg, FG, 5 + jn, rfl, s12.dr, hGf.mono eBh, h1, lg, zg, by omega, by omega, fun B' H' gg' FG' eF sF hG' hF' l1' l' z' => ?_⟩
          refine ⟨B', ss, gg', FS, fun p => FG' p ∧ B' p ≠ none, _, _, rfl, fun p o z => eF p o (fun zz => by rw [(fG p zz).1] at z; cases z) (eBh _ _ (ec4 _ _ z)), sF, (hS.mono eBh).apart (fun p z1 z2 => dis p z1 z2) eF, hG'.known, fun p z => ⟨(fS p z).1, exF_ne eF (fun zz => dis p z zz) (ex_ne eBh (fS p z).2)⟩, fun p z => ⟨?_, z.2⟩, fun p z1 z2 => ?_, ls, l', zs, z'⟩
          · rcases hF' p z.1 with zz | zz
            · exact (fG p zz).1
            · exact fresh_back (ec4.trans eBh) zz
          · rcases hF' p z2.1 with zz | zz
            · exact dis p z1 zz
            · exact ex_ne eBh (fS p z1).2 zz
      · obtain ⟨Bc, ss, gg, FS, FG, u7', u8', rfl, ec4, sc, hS, hGf, fS, fG, dis, ls, lg, zs, zg⟩ := p
        refine q_asgC (vs := [.ref b, .ref c]) (ea_cons (ev_var rfl) (ea_cons (ev_var rfl) ea_nil)) fun H9 e9 => ?_
        have s9 := sc.mono e9
        refine ⟨b, c, ss, gg, rfl, rowsAt_mono hS.rows s9.ex, sgnsAt_mono hGf.rows s9.ex, ⟨by omega, by omega, fun r hr => (by have := zs r hr; omega), fun x hx => (by have := zg x hx; omega)⟩, fun hne p H10 hp e10 hp10 => ?_, fun hnone p a' H10 hp ha' e10 hp10 hM => ?_⟩
        · have s10 := Sd.of (s9.mono e10).dr
          have eB : Ex Bc (KD.hide H10 d) := (s9.mono e10).below
          have hpB : KD.hide H10 d p = some (.lst [.bl true, .non]) := by rw [hide_ne (s9.ne hp)]; exact hp10
          refine gq_when (b := false) (et_is (et_not (et_B (item (j := 0) rfl hpB rfl))) rfl) s10 (fun z => by cases z) (fun _ H11 s11 => ?_)
          refine g_ifP (b := false) (et_is (et_test (ev_op (item (j := 1) rfl hpB rfl) ev_c rv_notN)) rfl) s11 (fun z => by cases z) (fun _ H12 s12 => ?_)
          exact ⟨_, _, _, _, _, _, _, _, rfl, s12, hK4.mono (ec4.trans eB) (Nat.le_succ _)⟩
        · have s10 := Sd.of (s9.mono e10).dr
          obtain ⟨nums, _, hd10⟩ := (s9.mono e10).dr
          have hMB := hM.hide hd10
          have eB : Ex Bc (KD.hide H10 d) := (s9.mono e10).below
          have hpB : KD.hide H10 d p = some (.lst [.bl true, .ref a']) := by rw [hide_ne (s9.ne hp)]; exact hp10
          refine gq_when (b := false) (et_is (et_not (et_B (item (j := 0) rfl hpB rfl))) rfl) s10 (fun z => by cases z) (fun _ H11 s11 => ?_)
          refine g_ifP (b := true) (et_is (et_test (ev_op (item (j := 1) rfl hpB rfl) ev_c rv_notN)) rfl) s11 (fun _ H12 s12 => ?_) (fun z => by cases z)
          have hkB : KD.hide H10 d kp = some (.lst (ps.map V.ref)) := eB _ _ (ec4 _ _ hkp)
          refine s_appL (s12.ex _ _ hkB) (ev_var rfl) (el_lst (ea_cons (item (j := 1) rfl (s12.ex _ _ hpB) rfl) (ea_cons (ev_var rfl) (ea_cons (ev_var rfl) (ea_cons (ev_var rfl) ea_nil)))) (by simp)) (by rw [List.length_map]; omega) fun p' H13 np' e13 hp13 => ?_
          have s13 := s12.mono e13
          have hk13 : KD.hide H13 d kp = some (.lst (ps.map V.ref)) := s13.below _ _ hkB
          have eB13 : Ex Bc (KD.hide H13 d) := eB.trans s13.below
          have pk : p' ≠ kp := fun z => by rw [z, s12.ex _ _ hkB] at np'; cases np'
          refine ⟨_, _, _, _, _, _, _, _, rfl, (Sd.of s13.dr).change hk13, ps ++ [p'], by rw [upd_same, List.map_append]; rfl, by rw [List.length_append, List.length_singleton]; omega, fun q hq => ?_⟩
          rw [hide_upd]
          rcases List.mem_append.mp hq with hq | hq
          · exact (hpk q hq).mono (hide_mono (ec4.trans eB13))
          · rw [List.mem_singleton.mp hq]
            have kn : ∀ {p}, B4 p = none → p ≠ kp := fun {p} z zz => by rw [zz, hkp] at z; cases z
            exact ⟨a', b, c, ss, gg, g, by rw [hide_ne pk, hide_ne (s12.ne np')]; exact hp13, (hMB.mono s13.below).hide hk13, (hS.mono eB13).hid fun p z => kn (fS p z).1, (hGf.mono eB13).hid fun p z => kn (fG p z).1, good_of hnone⟩
    · obtain ⟨B3, u3, u4, u5, u6, u7, u8, u9, rfl, s3, hK⟩ := p
      have all : ∀ {B : Hp} {n : Nat}, KeptAt C B kp n → ∃ p us, V.ref kp = .ref p ∧ B p = some (.lst us) ∧ ∀ x ∈ us, ∃ q, x = V.ref q ∧ KRow C B q := fun {B n} h => by
        obtain ⟨ps, z1, _, z3⟩ := h
        exact ⟨kp, _, rfl, z1, fun x hx => by
          obtain ⟨q, hq, rfl⟩ := List.mem_map.mp hx
          exact ⟨q, rfl, (z3 q hq).mono hide_ex⟩⟩
      refine gq_list (B := B3) (d := d) (Rl := fun us B1 => ∀ x ∈ us, ∃ q, x = V.ref q ∧ KRow C B1 q) (ok := fun σ' => ∃ u10 : Option V, σ' = [some (.ref a), some (.ref d), some (.ref kp), u3, u4, u5, u6, u7, u8, u9, u10]) (EvG.pure (ev_var rfl) (all hK)) s3 ⟨_, rfl⟩ (fun us B4 B5 H5 j x σ' e4 hR e5 s5 hx hok => ?_) (fun B4 H5 σ' e4 s4 hok => ?_)
      · obtain ⟨q, rfl, hKR⟩ := hR x (List.mem_of_getElem? hx)
        obtain ⟨u10, rfl⟩ := hok
        obtain ⟨a', b, c, ss, gg, gr, hp, hM, hb, hc, hG⟩ := hKR.mono e5
        refine gq_whenF (egt_orF (et_is (et_not (et_B (ev_call (ea_cons (item (j := 0) rfl hp rfl) (ea_cons (item (j := 1) rfl hp rfl) (ea_cons (item (j := 2) rfl hp rfl) ea_nil))) fun H1 e Q q E => ⟨a', b, c, ss, gg, rfl, hM.mono e, rowsAt_mono hb e, sgnsAt_mono hc e, hG, fun H2 e2 => q H2 e2⟩))) rfl) (egt_notT (eg_call (ega_lift (ea_cons (ev_var rfl) (ea_cons (item (j := 0) rfl hp rfl) (ea_cons (item (j := 1) rfl hp rfl) (ea_cons (item (j := 2) rfl hp rfl) ea_nil))))) (fun us B1 H1 _ h e => ⟨[.ref a', .ref b, .ref c], h.1, a', b, c, ss, gg, rfl, hM.mono (by have h2 := h.2; subst h2; exact e), rowsAt_mono hb (by have h2 := h.2; subst h2; exact e), sgnsAt_mono hc (by have h2 := h.2; subst h2; exact e), hG⟩) fun rest B1 B2 v _ _ _ h => h))) s5 fun B6 H6 e6 s6 => ?_
        refine g_whenF (egt_notT (eg_call (ega_lift (ea_cons (ev_var rfl) (ea_cons (item (j := 0) rfl (e6 _ _ hp) rfl) (ea_cons (item (j := 1) rfl (e6 _ _ hp) rfl) (ea_cons (item (j := 2) rfl (e6 _ _ hp) rfl) (ea_cons (item (j := 3) rfl (e6 _ _ hp) rfl) ea_nil)))))) (fun us B1 H1 _ h e => ⟨[.ref a', .ref b, .ref c, .bl gr], h.1, a', b, c, ss, gg, gr, rfl, hM.mono (e6.trans (by have h2 := h.2; subst h2; exact e)), rowsAt_mono hb (e6.trans (by have h2 := h.2; subst h2; exact e)), sgnsAt_mono hc (e6.trans (by have h2 := h.2; subst h2; exact e)), hG⟩) fun rest B1 B2 v _ _ _ h => h)) s6 fun B7 H7 e7 s7 => ⟨⟨_, rfl⟩, B7, e5.trans (e6.trans e7), s7⟩
      · obtain ⟨u10, rfl⟩ := hok
        refine gq_list (B := B4) (d := d) (Rl := fun us B1 => ∀ x ∈ us, ∃ q, x = V.ref q ∧ KRow C B1 q) (ok := fun σ' => ∃ u10 : Option V, σ' = [some (.ref a), some (.ref d), some (.ref kp), u3, u4, u5, u6, u7, u8, u9, u10]) (EvG.pure (ev_var rfl) (all (hK.mono e4 (Nat.le_refl _)))) s4 ⟨_, rfl⟩ (fun us B5 B6 H6 j x σ' e5 hR e6 s6 hx hok => ?_) (fun B5 H6 σ' e5 s5 hok => ?_)
        · obtain ⟨q, rfl, hKR⟩ := hR x (List.mem_of_getElem? hx)
          obtain ⟨u10, rfl⟩ := hok
          obtain ⟨a', b, c, ss, gg, gr, hp, hM, hb, hc, hG⟩ := hKR.mono e6
          refine g_whenF (egt_orF (et_is (et_not (et_B (ev_call (ea_cons (item (j := 0) rfl hp rfl) (ea_cons (item (j := 1) rfl hp rfl) (ea_cons (item (j := 2) rfl hp rfl) ea_nil))) fun H1 e Q q E => ⟨a', b, c, ss, gg, rfl, hM.mono e, rowsAt_mono hb e, sgnsAt_mono hc e, hG, fun H2 e2 => q H2 e2⟩))) rfl) (egt_notT (eg_call (ega_lift (ea_cons (ev_var rfl) (ea_cons (item (j := 0) rfl hp rfl) (ea_cons (item (j := 1) rfl hp rfl) (ea_cons (item (j := 2) rfl hp rfl) (ea_cons ev_c ea_nil)))))) (fun us B1 H1 _ h e => ⟨[.ref a', .ref b, .ref c, .bl false], h.1, a', b, c, ss, gg, false, rfl, hM.mono (by have h2 := h.2; subst h2; exact e), rowsAt_mono hb (by have h2 := h.2; subst h2; exact e), sgnsAt_mono hc (by have h2 := h.2; subst h2; exact e), hG⟩) fun rest B1 B2 v _ _ _ h => h))) s6 fun B7 H7 e7 s7 => ⟨⟨_, rfl⟩, B7, e6.trans e7, s7⟩
        · obtain ⟨u10, rfl⟩ := hok
          show tRet (tC (V.bl true)) { nx := fun _ H9 => Q .non H9, rt := Q } [some (.ref a), some (.ref d), some (.ref kp), u3, u4, u5, u6, u7, u8, u9, u10] H6
          exact s_ret ev_c fun H7 e7 => k H7
end
end K01
-- E35
namespace K01
open PySem PySem.Spec PyProof.Rows L2 KSup
/-! what the top has written -/
/-- a def that the top has written: found, as it stands -/
structure Wrt (K : PySem.W.Frag) (i : Nat) (x : Str) (f : Addr) (fd : FuncData) : Prop where
  a : PySem.W.nsIn K mainGlobals x = some (some (.ref f))
  l : ∃ (oc : Value) (od : Option Addr) (kV doc pm : Value) (an : Option Addr) (cdv ct : Value) (osl : Array (Option Value)), fd = PySem.W.fnOf x x (defArgs (topS i)) (defBody (topS i)) (defScope (topS i)) .none kV doc pm an cdv ct ∧ K.lookup f = some ⟨oc, od, .func fd, osl⟩ ∧ PySem.W.codeIn K cdv x = true
  k : PySem.W.keepIn K (.ref f) = true
theorem Wrt.at_ {K : PySem.W.Frag} {h : Heap} {mg : Str → Option Value} {i : Nat} {x : Str} {ps : List Str} {f : Addr} {fd : FuncData} (W : Wrt K i x f fd) (X : K.In h) (G : h.Ns mainGlobals mg)
    (hb : ∀ (kV doc pm : Value) (an : Option Addr) (cdv ct : Value) (us : List Value), us.length = ps.length → bindArgs (PySem.W.fnOf x x (defArgs (topS i)) (defBody (topS i)) (defScope (topS i)) .none kV doc pm an cdv ct) ⟨us, []⟩ = pure (ps.zip us)) : DefAt K mg i x ps f fd := by
  have F : Fun K x x (topS i) f fd := ⟨W.l, W.k⟩
  exact ⟨F, PySem.W.mg_of X G W.a, F.binds hb⟩
/-- a method of the class at C -/
structure WrM (K : PySem.W.Frag) (C : Addr) (j : Nat) (m qn : Str) (f : Addr) (fd : FuncData) : Prop where
  a : PySem.W.findIn K (.ref C) m = some (some (.ref f))
  i : PySem.W.isFn K (.ref f) = true
  l : ∃ (oc : Value) (od : Option Addr) (kV doc pm : Value) (an : Option Addr) (cdv ct : Value) (osl : Array (Option Value)), fd = PySem.W.fnOf m qn (defArgs (sSig j)) (defBody (sSig j)) (defScope (sSig j)) .none kV doc pm an cdv ct ∧ K.lookup f = some ⟨oc, od, .func fd, osl⟩ ∧ PySem.W.codeIn K cdv qn = true
  k : PySem.W.keepIn K (.ref f) = true
theorem WrM.m {K : PySem.W.Frag} {C : Addr} {j : Nat} {m qn : Str} {f : Addr} {fd : FuncData} (W : WrM K C j m qn f fd) : Meth K C m f := ⟨W.a, W.i, W.k⟩
theorem WrM.F {K : PySem.W.Frag} {C : Addr} {j : Nat} {m qn : Str} {f : Addr} {fd : FuncData} (W : WrM K C j m qn f fd) : Fun K m qn (sSig j) f fd := ⟨W.l, W.k⟩
/-- a def with one default -/
structure WrD (K : PySem.W.Frag) (st : Stmt) (x qn : Str) (v : V) (f : Addr) (fd : FuncData) : Prop where
  l : ∃ (oc : Value) (od : Option Addr) (tp : Addr) (kV doc pm : Value) (an : Option Addr) (cdv ct : Value) (osl : Array (Option Value)) (oT : Value) (dT : Option Addr) (u : Value) (nT : Nat) (sT : Array (Option Value)), fd = PySem.W.fnOf x qn (defArgs st) (defBody st) (defScope st) (.ref tp) kV doc pm an cdv ct ∧ K.lookup f = some ⟨oc, od, .func fd, osl⟩ ∧ PySem.W.codeIn K cdv qn = true ∧ K.lookup tp = some ⟨oT, dT, .seq #[u] nT, sT⟩ ∧ RelV v u
  k : PySem.W.keepIn K (.ref f) = true
theorem WrD.F {K : PySem.W.Frag} {st : Stmt} {x qn : Str} {v : V} {f : Addr} {fd : FuncData} (W : WrD K st x qn v f fd) : FunD K x qn (defArgs st) (defBody st) (defScope st) [v] [] f fd := by
  obtain ⟨oc, od, tp, kV, doc, pm, an, cdv, ct, osl, oT, dT, u, nT, sT, rfl, l, c, lT, r⟩ := W.l
  exact ⟨⟨_, _, _, _, _, _, _, _, _, _, rfl, l, c, .inr ⟨by simp, tp, _, [u], nT, rfl, lT, rfl, .cons r .nil⟩, .inl rfl⟩, W.k⟩
/-- an own error -/
structure WrE (prog : Program) (K : PySem.W.Frag) (x : Str) (C fI : Addr) (fs : List Str) : Prop where
  aC : PySem.W.nsIn K mainGlobals x = some (some (.ref C))
  txt : ∀ mg : Str → Option Value, mg x = some (.ref C) → mg "super" = none → SupTxt prog K mg x C fI fs
  exc : ExcC K C
  b1 : PySem.W.subIn K (.ref C) (.type "BaseException") = some true
theorem exm_sub {K : PySem.W.Frag} {D S : Addr} (h1 : PySem.W.subIn K (.ref S) (.type "BaseException") = some true) (h2 : PySem.W.isClsIn K S = true) (h3 : PySem.W.typeIn K (.ref S) = some (.type "type")) (h4 : PySem.W.subIn K (.ref D) (.ref S) = some true) : PySem.W.exmOne K (.ref D) (.ref S) = some true := by
  have h2' : (PySem.W.clsIn K S).isSome = true := h2
  have key : PySem.W.exmOne K (.ref D) (.ref S) = if (PySem.W.subIn K (.ref S) (.type "BaseException") == some true) = true then (if ((PySem.W.clsIn K S).isSome && PySem.W.typeIn K (.ref S) == some (.type "type")) = true then PySem.W.subIn K (.ref D) (.ref S) else none) else none := rfl
  rw [key, h1, h2', h3, h4]
  rfl
theorem along_of {K : PySem.W.Frag} {C N : Addr} {nm q : Str} {bs bm : List Value} {v : Value} {b : Bool} {sn : List Str} {sub : List Value} {ab : Bool} {col : Option Bool} {dd : Option Addr} {k0 k1 k2 k3 k5 : Option Value} {mk : String} (xL : K.lookup C = some (excClassObj nm q C N bs bm b sn sub ab col dd k0 k1 k2 k3 k5 mk)) (h : PySem.W.ks_superIn K C C "__init__" = some (some v)) : PySem.W.alongIn K "__init__" bm = some (some v) := by
  unfold PySem.W.ks_superIn PySem.W.clsIn at h
  rw [xL] at h
  simpa [excClassObj] using h
def ecF (c1 c2 c3 c4 c5 c6 : Addr) : EK → Addr
  | .count => c1
  | .name => c2
  | .twice => c3
  | .cap => c4
  | .unk => c5
  | .term => c6

theorem all_mk {l : PySem.W.OpenLaw} {w : World} {K : PySem.W.Frag} {h : Heap} {mg : Str → Option Value} {fa C re f13 f12 f18 f19 f20 f21 f22 f23 f24 f25 f26 f27 f28 f29 f30 f31 f32 f33 f34 f35 f36 f37 f38 f39 f40 f41 f42 f43 f44 g0 g1 g2 g3 g4 g5 g6 g7 g8 g9 c1 c2 c3 c4 c5 c6 i1 i2 i3 i4 i5 i6 : Addr} {d13 d12 d18 d19 d20 d21 d22 d23 d24 d25 d26 d27 d28 d29 d30 d31 d32 d33 d34 d35 d36 d37 d38 d39 d40 d41 d42 d43 d44 h0 h1 h2 h3 h4 h5 h6 h7 h8 h9 : FuncData} {t1 t2 t3 t4 : Tok} (X : K.In h) (G : h.Ns mainGlobals mg) (hfa : mg "law" = some (.ref fa))
    (w12 : Wrt K 12 "is_name" f12 d12)
    (w18 : Wrt K 18 "_law_draws" f18 d18)
    (w19 : Wrt K 19 "_law_take" f19 d19)
    (w20 : Wrt K 20 "_law_same" f20 d20)
    (w21 : Wrt K 21 "_law_name" f21 d21)
    (w22 : Wrt K 22 "_law_names" f22 d22)
    (w23 : Wrt K 23 "_law_sorts" f23 d23)
    (w24 : Wrt K 24 "_law_signs" f24 d24)
    (w25 : Wrt K 25 "_law_spoil_sorts" f25 d25)
    (w26 : Wrt K 26 "_law_spoil_signs" f26 d26)
    (w27 : Wrt K 27 "_law_first_fault_of_sorts" f27 d27)
    (w28 : Wrt K 28 "_law_first_fault" f28 d28)
    (w29 : Wrt K 29 "_law_is_name" f29 d29)
    (w30 : Wrt K 30 "_law_is_letter" f30 d30)
    (w31 : Wrt K 31 "_law_kinds" f31 d31)
    (w32 : Wrt K 32 "_law_made" f32 d32)
    (w33 : Wrt K 33 "_law_unknown" f33 d33)
    (w34 : Wrt K 34 "_law_names_told" f34 d34)
    (w35 : Wrt K 35 "_law_sort" f35 d35)
    (w36 : Wrt K 36 "_law_words" f36 d36)
    (w37 : Wrt K 37 "_law_words_told" f37 d37)
    (w38 : Wrt K 38 "_law_term" f38 d38)
    (w39 : Wrt K 39 "_law_text" f39 d39)
    (w40 : Wrt K 40 "_law_place" f40 d40)
    (w41 : Wrt K 41 "_law_checked" f41 d41)
    (w42 : Wrt K 42 "_law_texts_told" f42 d42)
    (w43 : Wrt K 43 "_law_handed" f43 d43)
    (w44 : Wrt K 44 "law" f44 d44)
    (z_len : PySem.W.nsIn K mainGlobals "len" = some none)
    (z_int : PySem.W.nsIn K mainGlobals "int" = some none)
    (z_abs : PySem.W.nsIn K mainGlobals "abs" = some none)
    (z_sum : PySem.W.nsIn K mainGlobals "sum" = some none)
    (z_range : PySem.W.nsIn K mainGlobals "range" = some none)
    (z_list : PySem.W.nsIn K mainGlobals "list" = some none)
    (z_tuple : PySem.W.nsIn K mainGlobals "tuple" = some none)
    (z_enumerate : PySem.W.nsIn K mainGlobals "enumerate" = some none)
    (z_str : PySem.W.nsIn K mainGlobals "str" = some none)
    (z_isinstance : PySem.W.nsIn K mainGlobals "isinstance" = some none)
    (z_bool : PySem.W.nsIn K mainGlobals "bool" = some none)
    (z_dict : PySem.W.nsIn K mainGlobals "dict" = some none)
    (z_reversed : PySem.W.nsIn K mainGlobals "reversed" = some none)
    (z_super : PySem.W.nsIn K mainGlobals "super" = some none)
    (s1 : PySem.W.nsIn K mainGlobals "SMALL" = some (some (.str small t1))) (s2 : PySem.W.nsIn K mainGlobals "DIGITS" = some (some (.str digits t2))) (s3 : PySem.W.nsIn K mainGlobals "CAPITALS" = some (some (.str capitals t3))) (s4 : PySem.W.nsIn K mainGlobals "MOST_WORDS" = some (some (.int 200 t4)))
    (a13 : PySem.W.nsIn K mainGlobals "is_letter" = some (some (.ref f13))) (w13 : WrD K (topS 13) "is_letter" "is_letter" (.int 9) f13 d13)
    (e1 : WrE l.prog K "BadCount" c1 i1 ["what"])
    (e2 : WrE l.prog K "BadName" c2 i2 ["name"])
    (e3 : WrE l.prog K "Twice" c3 i3 ["name"])
    (e4 : WrE l.prog K "BadCapital" c4 i4 ["capital"])
    (e5 : WrE l.prog K "UnknownName" c5 i5 ["name"])
    (e6 : WrE l.prog K "BadTerm" c6 i6 ["text", "place"])
    (aR : PySem.W.nsIn K mainGlobals "RuleError" = some (some (.ref re))) (xm : ∀ k, PySem.W.exmOne K (.ref (ecF c1 c2 c3 c4 c5 c6 k)) (.ref re) = some true) (kt : ∀ j k, PySem.W.kitOne K (.ref (ecF c1 c2 c3 c4 c5 c6 j)) (.ref (ecF c1 c2 c3 c4 c5 c6 k)) = some (decide (j = k)))
    (aS : PySem.W.nsIn K mainGlobals "Signature" = some (some (.ref C))) (S : SigC K C) (IK : InsK K C) (mk : PySem.W.makesIn K C = true) (kC : PySem.W.keepIn K (.ref C) = true) (m0 : WrM K C 0 "__init__" "Signature.__init__" g0 h0)
    (m1 : WrM K C 1 "_add_sort" "Signature._add_sort" g1 h1)
    (m2 : WrM K C 2 "_add_sign" "Signature._add_sign" g2 h2)
    (m3 : WrM K C 3 "capital" "Signature.capital" g3 h3)
    (m4 : WrM K C 4 "arguments" "Signature.arguments" g4 h4)
    (m5 : WrM K C 5 "result" "Signature.result" g5 h5)
    (m6 : WrM K C 6 "is_bare" "Signature.is_bare" g6 h6)
    (m7 : Meth K C "sort_of_word" g7) (D7 : WrD K (sSig 7) "sort_of_word" "Signature.sort_of_word" (.int 9) g7 h7)
    (m8 : Meth K C "fault" g8) (D8 : WrD K (sSig 8) "fault" "Signature.fault" (.non) g8 h8)
    (m9 : Meth K C "check" g9) (D9 : WrD K (sSig 9) "check" "Signature.check" (.non) g9 h9) :
    ∃ fd : FuncData, (∀ (s : Shared) (u : Value), BindsTo s fd ⟨[u], []⟩ [("script", u)]) ∧ ∀ base : Heap, K.In base → base.Ns mainGlobals mg → FnOk l.prog w K mg base CX0 7 fa fd ["script"] (spLaw K) := by
  have D12_ := w12.at_ (ps := ["text"]) X G fun _ _ _ _ _ _ us hl => match us, hl with | [_], _ => rfl
  have D18_ := w18.at_ (ps := ["script", "first", "cells"]) X G fun _ _ _ _ _ _ us hl => match us, hl with | [_, _, _], _ => rfl
  have D19_ := w19.at_ (ps := ["draws", "many"]) X G fun _ _ _ _ _ _ us hl => match us, hl with | [_, _], _ => rfl
  have D20_ := w20.at_ (ps := ["told", "due"]) X G fun _ _ _ _ _ _ us hl => match us, hl with | [_, _], _ => rfl
  have D21_ := w21.at_ (ps := ["draws", "many"]) X G fun _ _ _ _ _ _ us hl => match us, hl with | [_, _], _ => rfl
  have D22_ := w22.at_ (ps := ["draws", "many"]) X G fun _ _ _ _ _ _ us hl => match us, hl with | [_, _], _ => rfl
  have D23_ := w23.at_ (ps := ["draws", "many"]) X G fun _ _ _ _ _ _ us hl => match us, hl with | [_, _], _ => rfl
  have D24_ := w24.at_ (ps := ["draws", "sorts", "many"]) X G fun _ _ _ _ _ _ us hl => match us, hl with | [_, _, _], _ => rfl
  have D25_ := w25.at_ (ps := ["draws", "sorts", "way"]) X G fun _ _ _ _ _ _ us hl => match us, hl with | [_, _, _], _ => rfl
  have D26_ := w26.at_ (ps := ["draws", "signs", "way"]) X G fun _ _ _ _ _ _ us hl => match us, hl with | [_, _, _], _ => rfl
  have D27_ := w27.at_ (ps := ["sorts"]) X G fun _ _ _ _ _ _ us hl => match us, hl with | [_], _ => rfl
  have D28_ := w28.at_ (ps := ["sorts", "signs"]) X G fun _ _ _ _ _ _ us hl => match us, hl with | [_, _], _ => rfl
  have D29_ := w29.at_ (ps := ["text"]) X G fun _ _ _ _ _ _ us hl => match us, hl with | [_], _ => rfl
  have D30_ := w30.at_ (ps := ["text", "many"]) X G fun _ _ _ _ _ _ us hl => match us, hl with | [_, _], _ => rfl
  have D31_ := w31.at_ (ps := ["fault"]) X G fun _ _ _ _ _ _ us hl => match us, hl with | [_], _ => rfl
  have D32_ := w32.at_ (ps := ["sorts", "signs"]) X G fun _ _ _ _ _ _ us hl => match us, hl with | [_, _], _ => rfl
  have D33_ := w33.at_ (ps := ["made", "name", "way"]) X G fun _ _ _ _ _ _ us hl => match us, hl with | [_, _, _], _ => rfl
  have D34_ := w34.at_ (ps := ["made", "sorts", "signs"]) X G fun _ _ _ _ _ _ us hl => match us, hl with | [_, _, _], _ => rfl
  have D35_ := w35.at_ (ps := ["sorts", "signs", "word", "many"]) X G fun _ _ _ _ _ _ us hl => match us, hl with | [_, _, _, _], _ => rfl
  have D36_ := w36.at_ (ps := ["draws", "sorts", "signs"]) X G fun _ _ _ _ _ _ us hl => match us, hl with | [_, _, _], _ => rfl
  have D37_ := w37.at_ (ps := ["draws", "made", "sorts", "signs"]) X G fun _ _ _ _ _ _ us hl => match us, hl with | [_, _, _, _], _ => rfl
  have D38_ := w38.at_ (ps := ["draws", "sorts", "signs", "kind", "budget"]) X G fun _ _ _ _ _ _ us hl => match us, hl with | [_, _, _, _, _], _ => rfl
  have D39_ := w39.at_ (ps := ["draws", "sorts", "signs", "great"]) X G fun _ _ _ _ _ _ us hl => match us, hl with | [_, _, _, _], _ => rfl
  have D40_ := w40.at_ (ps := ["sorts", "signs", "text", "wanted"]) X G fun _ _ _ _ _ _ us hl => match us, hl with | [_, _, _, _], _ => rfl
  have D41_ := w41.at_ (ps := ["made", "text", "kind"]) X G fun _ _ _ _ _ _ us hl => match us, hl with | [_, _, _], _ => rfl
  have D42_ := w42.at_ (ps := ["draws", "made", "sorts", "signs", "great"]) X G fun _ _ _ _ _ _ us hl => match us, hl with | [_, _, _, _, _], _ => rfl
  have D43_ := w43.at_ (ps := ["sorts", "signs"]) X G fun _ _ _ _ _ _ us hl => match us, hl with | [_, _], _ => rfl
  have D44_ := w44.at_ (ps := ["script"]) X G fun _ _ _ _ _ _ us hl => match us, hl with | [_], _ => rfl
  have e := hfa.symm.trans D44_.g
  cases e
  have m_len := PySem.W.mg_none_of X G z_len
  have m_int := PySem.W.mg_none_of X G z_int
  have m_abs := PySem.W.mg_none_of X G z_abs
  have m_sum := PySem.W.mg_none_of X G z_sum
  have m_range := PySem.W.mg_none_of X G z_range
  have m_list := PySem.W.mg_none_of X G z_list
  have m_tuple := PySem.W.mg_none_of X G z_tuple
  have m_enumerate := PySem.W.mg_none_of X G z_enumerate
  have m_str := PySem.W.mg_none_of X G z_str
  have m_isinstance := PySem.W.mg_none_of X G z_isinstance
  have m_bool := PySem.W.mg_none_of X G z_bool
  have m_dict := PySem.W.mg_none_of X G z_dict
  have m_reversed := PySem.W.mg_none_of X G z_reversed
  have m_super := PySem.W.mg_none_of X G z_super
  have N : Nm mg := ⟨m_len, ⟨_, PySem.W.mg_of X G s1⟩, ⟨_, PySem.W.mg_of X G s2⟩, ⟨_, PySem.W.mg_of X G s3⟩⟩
  have M : NmS mg := ⟨m_isinstance, m_bool, m_int, m_str, m_dict, m_tuple, m_list, m_range⟩
  have MR : NmR mg := ⟨m_reversed⟩
  have E0 : Errs l.prog K mg (ecF c1 c2 c3 c4 c5 c6) (ecF i1 i2 i3 i4 i5 i6) := ⟨fun k => by
    cases k with
    | count => exact e1.txt mg (PySem.W.mg_of X G e1.aC) m_super
    | name => exact e2.txt mg (PySem.W.mg_of X G e2.aC) m_super
    | twice => exact e3.txt mg (PySem.W.mg_of X G e3.aC) m_super
    | cap => exact e4.txt mg (PySem.W.mg_of X G e4.aC) m_super
    | unk => exact e5.txt mg (PySem.W.mg_of X G e5.aC) m_super
    | term => exact e6.txt mg (PySem.W.mg_of X G e6.aC) m_super, fun k => by
    cases k with
    | count => exact e1.exc
    | name => exact e2.exc
    | twice => exact e3.exc
    | cap => exact e4.exc
    | unk => exact e5.exc
    | term => exact e6.exc, kt⟩
  have Ca : Caught K (ecF c1 c2 c3 c4 c5 c6) re := ⟨xm⟩
  have gR := PySem.W.mg_of X G aR
  have L13 : LetD K f13 d13 := w13.F
  obtain ⟨ds7, v7, b7⟩ := D7.F.binds1 (ps := ["self", "word", "digits"]) 2 0 (by simp) rfl (fun T kV doc pm an cdv ct us its l1 l2 => match us, its, l1, l2 with | [_, _], [_], _, _ => ⟨_, rfl, rfl⟩)
  obtain ⟨dn7, vn7, bn7⟩ := D7.F.binds1 (ps := ["self", "word", "digits"]) 3 1 (by simp) rfl (fun T kV doc pm an cdv ct us its l1 l2 => match us, its, l1, l2 with | [_, _, _], [_], _, _ => ⟨_, rfl, rfl⟩)
  obtain ⟨ds8, v8, b8⟩ := D8.F.binds1 (ps := ["self", "text", "wanted"]) 2 0 (by simp) rfl (fun T kV doc pm an cdv ct us its l1 l2 => match us, its, l1, l2 with | [_, _], [_], _, _ => ⟨_, rfl, rfl⟩)
  obtain ⟨dn8, vn8, bn8⟩ := D8.F.binds1 (ps := ["self", "text", "wanted"]) 3 1 (by simp) rfl (fun T kV doc pm an cdv ct us its l1 l2 => match us, its, l1, l2 with | [_, _, _], [_], _, _ => ⟨_, rfl, rfl⟩)
  obtain ⟨ds9, v9, b9⟩ := D9.F.binds1 (ps := ["self", "text", "wanted"]) 2 0 (by simp) rfl (fun T kV doc pm an cdv ct us its l1 l2 => match us, its, l1, l2 with | [_, _], [_], _, _ => ⟨_, rfl, rfl⟩)
  obtain ⟨dn9, vn9, bn9⟩ := D9.F.binds1 (ps := ["self", "text", "wanted"]) 3 1 (by simp) rfl (fun T kV doc pm an cdv ct us its l1 l2 => match us, its, l1, l2 with | [_, _, _], [_], _, _ => ⟨_, rfl, rfl⟩)
  cases vn7
  cases vn8
  cases vn9
  obtain ⟨its7, kb7⟩ := D7.F.kbindsD (ps := ["self", "word", "digits"]) 2 ["digits"] (fun us _ ws => us ++ ws) (by simp) (fun r1 _ r3 => Vals.append r1 r3) (fun T kV doc pm an cdv ct us its ws l1 l2 l3 => match us, its, ws, l1, l2, l3 with | [_, _], [_], [_], _, _, _ => ⟨_, rfl, rfl⟩)
  refine ⟨d44, fun s v => ?_, fun base _ _ => ?_⟩
  · obtain ⟨oc, od, kV, doc, pm, an, cdv, ct, osl, rfl, _⟩ := w44.l
    exact .of_eq rfl
  · have bM : ∀ {j : Nat} {m qn : Str} {f : Addr} {fd : FuncData} {ps : List Str} (W : WrM K C j m qn f fd) (hb : ∀ (kV doc pm : Value) (an : Option Addr) (cdv ct : Value) (us : List Value), us.length = ps.length → bindArgs (PySem.W.fnOf m qn (defArgs (sSig j)) (defBody (sSig j)) (defScope (sSig j)) .none kV doc pm an cdv ct) ⟨us, []⟩ = pure (ps.zip us)), Binds K fd ps [] := fun W hb => W.F.binds hb
    have bb0 := bM (ps := ["self", "sorts", "signs"]) m0 fun _ _ _ _ _ _ us hl => match us, hl with | [_, _, _], _ => rfl
    have bb1 := bM (ps := ["self", "name", "capital"]) m1 fun _ _ _ _ _ _ us hl => match us, hl with | [_, _, _], _ => rfl
    have bb2 := bM (ps := ["self", "name", "arguments", "result"]) m2 fun _ _ _ _ _ _ us hl => match us, hl with | [_, _, _, _], _ => rfl
    have bb3 := bM (ps := ["self", "sort"]) m3 fun _ _ _ _ _ _ us hl => match us, hl with | [_, _], _ => rfl
    have bb4 := bM (ps := ["self", "sign"]) m4 fun _ _ _ _ _ _ us hl => match us, hl with | [_, _], _ => rfl
    have bb5 := bM (ps := ["self", "sign"]) m5 fun _ _ _ _ _ _ us hl => match us, hl with | [_, _], _ => rfl
    have bb6 := bM (ps := ["self", "sort"]) m6 fun _ _ _ _ _ _ us hl => match us, hl with | [_, _], _ => rfl
    have LET : LetAt l.prog w K mg base f13 d13 := ⟨ok_is_letter L13 N, PySem.W.mg_of X G a13, L13.kp, L13⟩
    have I0 := ok_init (P := l.prog) (w := w) (base := base) m0.F m1.F m2.F m1.m m2.m D12_ N M S E0 bb1 bb2
    have MK : MkAt l.prog w K mg base (ecF c1 c2 c3 c4 c5 c6) C g0 h0 := ⟨I0, ⟨mk, m0.a, m0.i, kC⟩, PySem.W.mg_of X G aS, bb0⟩
    have M3 : MAt l.prog w K mg base C (L2N.CX l.prog w) 1 "capital" ["self", "sort"] (spLook (ecF c1 c2 c3 c4 c5 c6) C "_capitals") [] := ⟨g3, h3, [], m3.m, ok_capital m3.F S E0, bb3, .nil⟩
    have M4 : MAt l.prog w K mg base C (L2N.CX l.prog w) 1 "arguments" ["self", "sign"] (spLook (ecF c1 c2 c3 c4 c5 c6) C "_arguments") [] := ⟨g4, h4, [], m4.m, ok_arguments m4.F S E0, bb4, .nil⟩
    have M5 : MAt l.prog w K mg base C (L2N.CX l.prog w) 1 "result" ["self", "sign"] (spLook (ecF c1 c2 c3 c4 c5 c6) C "_results") [] := ⟨g5, h5, [], m5.m, ok_result m5.F S E0, bb5, .nil⟩
    have M6 : MAt l.prog w K mg base C (L2N.CX l.prog w) 1 "is_bare" ["self", "sort"] (spBare (ecF c1 c2 c3 c4 c5 c6) C) [] := ⟨g6, h6, [], m6.m, ok_bare m6.F S E0, bb6, .nil⟩
    have G7 : FnOk l.prog w K mg base CX0 2 g7 h7 ["self", "word", "digits"] (spSortW C) := ok_sow D7.F S LET
    have G8 : FnOk l.prog w K mg base CX0 3 g8 h8 ["self", "text", "wanted"] (spFault C) := ok_fault D8.F S m7 G7 b7 v7 N M m_reversed m_enumerate (PySem.W.mg_of X G s4)
    have G9 : FnOk l.prog w K mg base (L2N.CX l.prog w) 4 g9 h9 ["self", "text", "wanted"] (spCheck (ecF c1 c2 c3 c4 c5 c6) C) := ok_check D9.F S E0 m7 G7 b7 v7 m8 G8 bn8
    have T : TakeAt l.prog w K mg base f19 d19 := D19_.gen (ok_take (P := l.prog) (w := w) (base := base) D19_ N m_int)
    have DR := D18_.gen (ok_draws (P := l.prog) (w := w) (base := base) D18_ N m_int m_abs m_sum m_range)
    have SM : GenAt l.prog w K mg base 5 "_law_same" ["told", "due"] (spSame 4) f20 d20 := D20_.gen (ok_same (P := l.prog) (w := w) (base := base) D20_ N M 4)
    have ST : SmT l.prog w K mg base 2 f20 d20 := ⟨okT_same D20_ N M 2, D20_.g, D20_.F.kp, D20_.b⟩
    have NM := D21_.gen (ok_name (P := l.prog) (w := w) (base := base) D21_ T N M)
    have NS := D22_.gen (ok_names (P := l.prog) (w := w) (base := base) D22_ T NM N M)
    have SS := D23_.gen (ok_sorts (P := l.prog) (w := w) (base := base) D23_ T NS N M)
    have SG := D24_.gen (ok_signs (P := l.prog) (w := w) (base := base) D24_ T NS N M)
    have XS := D25_.gen (ok_spoilS (P := l.prog) (w := w) (base := base) D25_ T SS N M)
    have XG := D26_.gen (ok_spoilG (P := l.prog) (w := w) (base := base) D26_ T NS N M)
    have LN := D29_.gen (ok_law_is_name (P := l.prog) (w := w) (base := base) D29_ N)
    have LL := D30_.gen (ok_law_is_letter (P := l.prog) (w := w) (base := base) D30_ N)
    have FS := D27_.gen (ok_ffs (P := l.prog) (w := w) (base := base) D27_ LN N M)
    have FF := D28_.gen (ok_ff (P := l.prog) (w := w) (base := base) D28_ LN FS N M)
    have KT : KinAt l.prog w K mg base (ecF c1 c2 c3 c4 c5 c6) f31 d31 := ⟨okT_kinds D31_ M E0, D31_.g, D31_.F.kp, D31_.b⟩
    have MD := D32_.gen (ok_made (P := l.prog) (w := w) (base := base) D32_ MK KT E0 Ca gR)
    have UN := D33_.gen (ok_unk (P := l.prog) (w := w) (base := base) D33_ S KT ST Ca gR M3 M6 M4 M5)
    have NT := D34_.gen (ok_nt (P := l.prog) (w := w) (base := base) D34_ S SM UN N M M3 M6 M4 M5)
    have SO := D35_.gen (ok_sort (P := l.prog) (w := w) (base := base) D35_ LL N M)
    have WO := D36_.gen (ok_words (P := l.prog) (w := w) (base := base) D36_ T N M)
    have WT := D37_.gen (ok_wt (P := l.prog) (w := w) (base := base) D37_ S T WO SM SO N M m7 G7 b7 v7 bn7 kb7)
    have TE := D38_.gen (ok_term (P := l.prog) (w := w) (base := base) D38_ T N M MR)
    have TX := D39_.gen (ok_text (P := l.prog) (w := w) (base := base) D39_ T TE WO N M)
    have PL := D40_.gen (ok_place (P := l.prog) (w := w) (base := base) D40_ SO N M)
    have CK := D41_.gen (ok_checked (P := l.prog) (w := w) (base := base) D41_ S KT Ca gR ⟨g9, h9, ds9, m9, G9, b9, v9⟩ ⟨g9, h9, [], m9, G9, bn9, .nil⟩)
    have TT := D42_.gen (ok_tt (P := l.prog) (w := w) (base := base) D42_ S T TX PL SM SO CK N M ⟨g8, h8, ds8, m8, G8, b8, v8⟩ ⟨g8, h8, [], m8, G8, bn8, .nil⟩)
    have HA := D43_.gen (ok_handed (P := l.prog) (w := w) (base := base) D43_ S IK SM FF MD N M)
    exact ok_law D44_ DR T SS SG XS XG HA NT WT TT N M
end K01
-- Fin
open PySem PySem.W PyProof.Rows
set_option maxHeartbeats 0 in
theorem PySem.Challenge.cw_rulesonrules_k01_signatures_made_or_refu_holds : PySem.Challenge.rw_rulesonrules_k01_signatures_made_or_refu.Holds := by
  w_on; o_law; k_head; (case hw => w_witness2)
  k_fill
  refine L2.walk_ofK (l := PySem.Challenge.rw_rulesonrules_k01_signatures_made_or_refu) (n := 63) (k := 7) (x := "script") (CX := L2.CX0) (sp := K01.spLaw) rfl (by decide) rfl ⟨rfl, by decide, by decide⟩ (fun w h Y => PySem.W.kIn_of Y) ?F (fun K H a ns _ _ hS => ⟨a, ns, rfl, hS, fun _ => rfl⟩) (fun _ _ _ _ z => z)
  case F =>
    intro w mg fa h KX G hmg
    refine' K01.all_mk KX G hmg ?w12 ?w18 ?w19 ?w20 ?w21 ?w22 ?w23 ?w24 ?w25 ?w26 ?w27 ?w28 ?w29 ?w30 ?w31 ?w32 ?w33 ?w34 ?w35 ?w36 ?w37 ?w38 ?w39 ?w40 ?w41 ?w42 ?w43 ?w44 ?z_len ?z_int ?z_abs ?z_sum ?z_range ?z_list ?z_tuple ?z_enumerate ?z_str ?z_isinstance ?z_bool ?z_dict ?z_reversed ?z_super ?s1 ?s2 ?s3 ?s4 ?a13 ?w13 ?e1 ?e2 ?e3 ?e4 ?e5 ?e6 ?aR ?xm ?kt ?aS ?S ?IK ?mk ?kC ?m0 ?m1 ?m2 ?m3 ?m4 ?m5 ?m6 ?m7 ?D7 ?m8 ?D8 ?m9 ?D9
    (case aS => k_is)
    (case aR => k_is)
    (case w12 => exact ⟨by k_is, ⟨_, _, _, _, _, _, _, _, _, rfl, by k_is, by k_is⟩, by k_is⟩)
    (case w18 => exact ⟨by k_is, ⟨_, _, _, _, _, _, _, _, _, rfl, by k_is, by k_is⟩, by k_is⟩)
    (case w19 => exact ⟨by k_is, ⟨_, _, _, _, _, _, _, _, _, rfl, by k_is, by k_is⟩, by k_is⟩)
    (case w20 => exact ⟨by k_is, ⟨_, _, _, _, _, _, _, _, _, rfl, by k_is, by k_is⟩, by k_is⟩)
    (case w21 => exact ⟨by k_is, ⟨_, _, _, _, _, _, _, _, _, rfl, by k_is, by k_is⟩, by k_is⟩)
    (case w22 => exact ⟨by k_is, ⟨_, _, _, _, _, _, _, _, _, rfl, by k_is, by k_is⟩, by k_is⟩)
    (case w23 => exact ⟨by k_is, ⟨_, _, _, _, _, _, _, _, _, rfl, by k_is, by k_is⟩, by k_is⟩)
    (case w24 => exact ⟨by k_is, ⟨_, _, _, _, _, _, _, _, _, rfl, by k_is, by k_is⟩, by k_is⟩)
    (case w25 => exact ⟨by k_is, ⟨_, _, _, _, _, _, _, _, _, rfl, by k_is, by k_is⟩, by k_is⟩)
    (case w26 => exact ⟨by k_is, ⟨_, _, _, _, _, _, _, _, _, rfl, by k_is, by k_is⟩, by k_is⟩)
    (case w27 => exact ⟨by k_is, ⟨_, _, _, _, _, _, _, _, _, rfl, by k_is, by k_is⟩, by k_is⟩)
    (case w28 => exact ⟨by k_is, ⟨_, _, _, _, _, _, _, _, _, rfl, by k_is, by k_is⟩, by k_is⟩)
    (case w29 => exact ⟨by k_is, ⟨_, _, _, _, _, _, _, _, _, rfl, by k_is, by k_is⟩, by k_is⟩)
    (case w30 => exact ⟨by k_is, ⟨_, _, _, _, _, _, _, _, _, rfl, by k_is, by k_is⟩, by k_is⟩)
    (case w31 => exact ⟨by k_is, ⟨_, _, _, _, _, _, _, _, _, rfl, by k_is, by k_is⟩, by k_is⟩)
    (case w32 => exact ⟨by k_is, ⟨_, _, _, _, _, _, _, _, _, rfl, by k_is, by k_is⟩, by k_is⟩)
    (case w33 => exact ⟨by k_is, ⟨_, _, _, _, _, _, _, _, _, rfl, by k_is, by k_is⟩, by k_is⟩)
    (case w34 => exact ⟨by k_is, ⟨_, _, _, _, _, _, _, _, _, rfl, by k_is, by k_is⟩, by k_is⟩)
    (case w35 => exact ⟨by k_is, ⟨_, _, _, _, _, _, _, _, _, rfl, by k_is, by k_is⟩, by k_is⟩)
    (case w36 => exact ⟨by k_is, ⟨_, _, _, _, _, _, _, _, _, rfl, by k_is, by k_is⟩, by k_is⟩)
    (case w37 => exact ⟨by k_is, ⟨_, _, _, _, _, _, _, _, _, rfl, by k_is, by k_is⟩, by k_is⟩)
    (case w38 => exact ⟨by k_is, ⟨_, _, _, _, _, _, _, _, _, rfl, by k_is, by k_is⟩, by k_is⟩)
    (case w39 => exact ⟨by k_is, ⟨_, _, _, _, _, _, _, _, _, rfl, by k_is, by k_is⟩, by k_is⟩)
    (case w40 => exact ⟨by k_is, ⟨_, _, _, _, _, _, _, _, _, rfl, by k_is, by k_is⟩, by k_is⟩)
    (case w41 => exact ⟨by k_is, ⟨_, _, _, _, _, _, _, _, _, rfl, by k_is, by k_is⟩, by k_is⟩)
    (case w42 => exact ⟨by k_is, ⟨_, _, _, _, _, _, _, _, _, rfl, by k_is, by k_is⟩, by k_is⟩)
    (case w43 => exact ⟨by k_is, ⟨_, _, _, _, _, _, _, _, _, rfl, by k_is, by k_is⟩, by k_is⟩)
    (case w44 => exact ⟨by k_is, ⟨_, _, _, _, _, _, _, _, _, rfl, by k_is, by k_is⟩, by k_is⟩)
    (case z_len => k_is)
    (case z_int => k_is)
    (case z_abs => k_is)
    (case z_sum => k_is)
    (case z_range => k_is)
    (case z_list => k_is)
    (case z_tuple => k_is)
    (case z_enumerate => k_is)
    (case z_str => k_is)
    (case z_isinstance => k_is)
    (case z_bool => k_is)
    (case z_dict => k_is)
    (case z_reversed => k_is)
    (case z_super => k_is)
    (case s1 => k_is)
    (case s2 => k_is)
    (case s3 => k_is)
    (case s4 => k_is)
    (case a13 => k_is)
    (case w13 => exact ⟨⟨_, _, _, _, _, _, _, _, _, _, _, _, _, _, _, rfl, by k_is, by k_is, by k_is, ⟨_, rfl⟩⟩, by k_is⟩)
    (case e1 =>
      refine' K01.WrE.mk ?aCE1 ?txtE1 ?excE1 ?b1E1
      (case aCE1 => k_is)
      (case excE1 => exact ⟨by k_is, by k_is, by k_is, by k_is, by k_is, by k_is, by k_is, by k_is⟩)
      (case b1E1 => k_is)
      (case txtE1 =>
        intro mg' gC' su
        refine' KSup.SupTxt.mk gC' ?clsE1 ?saE1 ?iCE1 ?tIE1 ?kCE1 ?exCE1 ?veCE1 ?tyCE1 ?ccE1 ?noE1 ?ndE1 ?nzE1 ?dbgE1 ?statE1 su ?topE1 ?fnE1
        (case clsE1 =>
          refine' ⟨_, _, _, _, _, _, _, _, _, _, _, _, _, _, _, ?xlE1, ?rfE1, K01.along_of ?xlE1 ?ksE1⟩
          (case xlE1 => k_is)
          (case rfE1 => rfl)
          (case ksE1 => ks_is))
        (case saE1 => k_is)
        (case iCE1 => k_is)
        (case tIE1 => k_is)
        (case kCE1 => k_is)
        (case exCE1 => k_is)
        (case veCE1 => k_is)
        (case tyCE1 => k_is)
        (case ccE1 => k_is)
        (case noE1 => exact fun f hf => by (rw [List.mem_singleton.mp hf]; k_is))
        (case ndE1 => decide)
        (case nzE1 => decide)
        (case dbgE1 => exact fun f hf => by (rw [List.mem_singleton.mp hf]; decide))
        (case statE1 => k_is)
        (case topE1 => decide +kernel)
        (case fnE1 => exact ⟨_, _, _, _, _, _, _, _, _, L2.defArgs (L2.inClass (K01.topS 6) 0), L2.defScope (L2.inClass (K01.topS 6) 0), _, _, _, _, _, _, _, _, _, _, _, _, _, _, _, _, _, _, _, _, by k_is, by k_is, ⟨_, _, _, _, _, rfl, rfl⟩, rfl, rfl, by k_is, rfl, by decide +kernel, rfl, by k_is, rfl, rfl, rfl, by decide +kernel, rfl, rfl, by decide +kernel, fun s us hu => match us, hu with | [_, _], _ => .of_eq rfl⟩)))
    (case e2 =>
      refine' K01.WrE.mk ?aCE2 ?txtE2 ?excE2 ?b1E2
      (case aCE2 => k_is)
      (case excE2 => exact ⟨by k_is, by k_is, by k_is, by k_is, by k_is, by k_is, by k_is, by k_is⟩)
      (case b1E2 => k_is)
      (case txtE2 =>
        intro mg' gC' su
        refine' KSup.SupTxt.mk gC' ?clsE2 ?saE2 ?iCE2 ?tIE2 ?kCE2 ?exCE2 ?veCE2 ?tyCE2 ?ccE2 ?noE2 ?ndE2 ?nzE2 ?dbgE2 ?statE2 su ?topE2 ?fnE2
        (case clsE2 =>
          refine' ⟨_, _, _, _, _, _, _, _, _, _, _, _, _, _, _, ?xlE2, ?rfE2, K01.along_of ?xlE2 ?ksE2⟩
          (case xlE2 => k_is)
          (case rfE2 => rfl)
          (case ksE2 => ks_is))
        (case saE2 => k_is)
        (case iCE2 => k_is)
        (case tIE2 => k_is)
        (case kCE2 => k_is)
        (case exCE2 => k_is)
        (case veCE2 => k_is)
        (case tyCE2 => k_is)
        (case ccE2 => k_is)
        (case noE2 => exact fun f hf => by (rw [List.mem_singleton.mp hf]; k_is))
        (case ndE2 => decide)
        (case nzE2 => decide)
        (case dbgE2 => exact fun f hf => by (rw [List.mem_singleton.mp hf]; decide))
        (case statE2 => k_is)
        (case topE2 => decide +kernel)
        (case fnE2 => exact ⟨_, _, _, _, _, _, _, _, _, L2.defArgs (L2.inClass (K01.topS 2) 0), L2.defScope (L2.inClass (K01.topS 2) 0), _, _, _, _, _, _, _, _, _, _, _, _, _, _, _, _, _, _, _, _, by k_is, by k_is, ⟨_, _, _, _, _, rfl, rfl⟩, rfl, rfl, by k_is, rfl, by decide +kernel, rfl, by k_is, rfl, rfl, rfl, by decide +kernel, rfl, rfl, by decide +kernel, fun s us hu => match us, hu with | [_, _], _ => .of_eq rfl⟩)))
    (case e3 =>
      refine' K01.WrE.mk ?aCE3 ?txtE3 ?excE3 ?b1E3
      (case aCE3 => k_is)
      (case excE3 => exact ⟨by k_is, by k_is, by k_is, by k_is, by k_is, by k_is, by k_is, by k_is⟩)
      (case b1E3 => k_is)
      (case txtE3 =>
        intro mg' gC' su
        refine' KSup.SupTxt.mk gC' ?clsE3 ?saE3 ?iCE3 ?tIE3 ?kCE3 ?exCE3 ?veCE3 ?tyCE3 ?ccE3 ?noE3 ?ndE3 ?nzE3 ?dbgE3 ?statE3 su ?topE3 ?fnE3
        (case clsE3 =>
          refine' ⟨_, _, _, _, _, _, _, _, _, _, _, _, _, _, _, ?xlE3, ?rfE3, K01.along_of ?xlE3 ?ksE3⟩
          (case xlE3 => k_is)
          (case rfE3 => rfl)
          (case ksE3 => ks_is))
        (case saE3 => k_is)
        (case iCE3 => k_is)
        (case tIE3 => k_is)
        (case kCE3 => k_is)
        (case exCE3 => k_is)
        (case veCE3 => k_is)
        (case tyCE3 => k_is)
        (case ccE3 => k_is)
        (case noE3 => exact fun f hf => by (rw [List.mem_singleton.mp hf]; k_is))
        (case ndE3 => decide)
        (case nzE3 => decide)
        (case dbgE3 => exact fun f hf => by (rw [List.mem_singleton.mp hf]; decide))
        (case statE3 => k_is)
        (case topE3 => decide +kernel)
        (case fnE3 => exact ⟨_, _, _, _, _, _, _, _, _, L2.defArgs (L2.inClass (K01.topS 3) 0), L2.defScope (L2.inClass (K01.topS 3) 0), _, _, _, _, _, _, _, _, _, _, _, _, _, _, _, _, _, _, _, _, by k_is, by k_is, ⟨_, _, _, _, _, rfl, rfl⟩, rfl, rfl, by k_is, rfl, by decide +kernel, rfl, by k_is, rfl, rfl, rfl, by decide +kernel, rfl, rfl, by decide +kernel, fun s us hu => match us, hu with | [_, _], _ => .of_eq rfl⟩)))
    (case e4 =>
      refine' K01.WrE.mk ?aCE4 ?txtE4 ?excE4 ?b1E4
      (case aCE4 => k_is)
      (case excE4 => exact ⟨by k_is, by k_is, by k_is, by k_is, by k_is, by k_is, by k_is, by k_is⟩)
      (case b1E4 => k_is)
      (case txtE4 =>
        intro mg' gC' su
        refine' KSup.SupTxt.mk gC' ?clsE4 ?saE4 ?iCE4 ?tIE4 ?kCE4 ?exCE4 ?veCE4 ?tyCE4 ?ccE4 ?noE4 ?ndE4 ?nzE4 ?dbgE4 ?statE4 su ?topE4 ?fnE4
        (case clsE4 =>
          refine' ⟨_, _, _, _, _, _, _, _, _, _, _, _, _, _, _, ?xlE4, ?rfE4, K01.along_of ?xlE4 ?ksE4⟩
          (case xlE4 => k_is)
          (case rfE4 => rfl)
          (case ksE4 => ks_is))
        (case saE4 => k_is)
        (case iCE4 => k_is)
        (case tIE4 => k_is)
        (case kCE4 => k_is)
        (case exCE4 => k_is)
        (case veCE4 => k_is)
        (case tyCE4 => k_is)
        (case ccE4 => k_is)
        (case noE4 => exact fun f hf => by (rw [List.mem_singleton.mp hf]; k_is))
        (case ndE4 => decide)
        (case nzE4 => decide)
        (case dbgE4 => exact fun f hf => by (rw [List.mem_singleton.mp hf]; decide))
        (case statE4 => k_is)
        (case topE4 => decide +kernel)
        (case fnE4 => exact ⟨_, _, _, _, _, _, _, _, _, L2.defArgs (L2.inClass (K01.topS 5) 0), L2.defScope (L2.inClass (K01.topS 5) 0), _, _, _, _, _, _, _, _, _, _, _, _, _, _, _, _, _, _, _, _, by k_is, by k_is, ⟨_, _, _, _, _, rfl, rfl⟩, rfl, rfl, by k_is, rfl, by decide +kernel, rfl, by k_is, rfl, rfl, rfl, by decide +kernel, rfl, rfl, by decide +kernel, fun s us hu => match us, hu with | [_, _], _ => .of_eq rfl⟩)))
    (case e5 =>
      refine' K01.WrE.mk ?aCE5 ?txtE5 ?excE5 ?b1E5
      (case aCE5 => k_is)
      (case excE5 => exact ⟨by k_is, by k_is, by k_is, by k_is, by k_is, by k_is, by k_is, by k_is⟩)
      (case b1E5 => k_is)
      (case txtE5 =>
        intro mg' gC' su
        refine' KSup.SupTxt.mk gC' ?clsE5 ?saE5 ?iCE5 ?tIE5 ?kCE5 ?exCE5 ?veCE5 ?tyCE5 ?ccE5 ?noE5 ?ndE5 ?nzE5 ?dbgE5 ?statE5 su ?topE5 ?fnE5
        (case clsE5 =>
          refine' ⟨_, _, _, _, _, _, _, _, _, _, _, _, _, _, _, ?xlE5, ?rfE5, K01.along_of ?xlE5 ?ksE5⟩
          (case xlE5 => k_is)
          (case rfE5 => rfl)
          (case ksE5 => ks_is))
        (case saE5 => k_is)
        (case iCE5 => k_is)
        (case tIE5 => k_is)
        (case kCE5 => k_is)
        (case exCE5 => k_is)
        (case veCE5 => k_is)
        (case tyCE5 => k_is)
        (case ccE5 => k_is)
        (case noE5 => exact fun f hf => by (rw [List.mem_singleton.mp hf]; k_is))
        (case ndE5 => decide)
        (case nzE5 => decide)
        (case dbgE5 => exact fun f hf => by (rw [List.mem_singleton.mp hf]; decide))
        (case statE5 => k_is)
        (case topE5 => decide +kernel)
        (case fnE5 => exact ⟨_, _, _, _, _, _, _, _, _, L2.defArgs (L2.inClass (K01.topS 4) 0), L2.defScope (L2.inClass (K01.topS 4) 0), _, _, _, _, _, _, _, _, _, _, _, _, _, _, _, _, _, _, _, _, by k_is, by k_is, ⟨_, _, _, _, _, rfl, rfl⟩, rfl, rfl, by k_is, rfl, by decide +kernel, rfl, by k_is, rfl, rfl, rfl, by decide +kernel, rfl, rfl, by decide +kernel, fun s us hu => match us, hu with | [_, _], _ => .of_eq rfl⟩)))
    (case e6 =>
      refine' K01.WrE.mk ?aCE6 ?txtE6 ?excE6 ?b1E6
      (case aCE6 => k_is)
      (case excE6 => exact ⟨by k_is, by k_is, by k_is, by k_is, by k_is, by k_is, by k_is, by k_is⟩)
      (case b1E6 => k_is)
      (case txtE6 =>
        intro mg' gC' su
        refine' KSup.SupTxt.mk gC' ?clsE6 ?saE6 ?iCE6 ?tIE6 ?kCE6 ?exCE6 ?veCE6 ?tyCE6 ?ccE6 ?noE6 ?ndE6 ?nzE6 ?dbgE6 ?statE6 su ?topE6 ?fnE6
        (case clsE6 =>
          refine' ⟨_, _, _, _, _, _, _, _, _, _, _, _, _, _, _, ?xlE6, ?rfE6, K01.along_of ?xlE6 ?ksE6⟩
          (case xlE6 => k_is)
          (case rfE6 => rfl)
          (case ksE6 => ks_is))
        (case saE6 => k_is)
        (case iCE6 => k_is)
        (case tIE6 => k_is)
        (case kCE6 => k_is)
        (case exCE6 => k_is)
        (case veCE6 => k_is)
        (case tyCE6 => k_is)
        (case ccE6 => k_is)
        (case noE6 => exact fun f hf => (List.mem_cons.mp hf).elim (fun z => by (rw [z]; k_is)) (fun z => by (rw [List.mem_singleton.mp z]; k_is)))
        (case ndE6 => decide)
        (case nzE6 => decide)
        (case dbgE6 => exact fun f hf => (List.mem_cons.mp hf).elim (fun z => by (rw [z]; decide)) (fun z => by (rw [List.mem_singleton.mp z]; decide)))
        (case statE6 => k_is)
        (case topE6 => decide +kernel)
        (case fnE6 => exact ⟨_, _, _, _, _, _, _, _, _, L2.defArgs (L2.inClass (K01.topS 7) 0), L2.defScope (L2.inClass (K01.topS 7) 0), _, _, _, _, _, _, _, _, _, _, _, _, _, _, _, _, _, _, _, _, by k_is, by k_is, ⟨_, _, _, _, _, rfl, ⟨_, _, _, _, _, rfl, rfl⟩⟩, rfl, rfl, by k_is, rfl, by decide +kernel, rfl, by k_is, rfl, rfl, rfl, by decide +kernel, rfl, rfl, by decide +kernel, fun s us hu => match us, hu with | [_, _, _], _ => .of_eq rfl⟩)))
    (case xm => intro k; cases k <;> (dsimp only [K01.ecF]; exact K01.exm_sub (by k_is) (by k_is) (by k_is) (by first | rfl | k_is)))
    (case kt => intro j k; cases j <;> cases k <;> (dsimp only [K01.ecF]; kit_is))
    (case S => exact ⟨⟨by k_is, by k_is, by k_is, by k_is⟩, fun f hf => by (simp only [List.mem_cons, List.not_mem_nil, or_false] at hf; rcases hf with rfl | rfl | rfl | rfl | rfl | rfl | rfl <;> (show PySem.W.findIn _ _ _ = some none; k_is))⟩)
    (case IK => exact ⟨by k_is, by k_is, by k_is, by k_is, by kit_is⟩)
    (case mk => k_is)
    (case kC => k_is)
    (case m0 => exact ⟨by k_is, by k_is, ⟨_, _, _, _, _, _, _, _, _, rfl, by k_is, by k_is⟩, by k_is⟩)
    (case m1 => exact ⟨by k_is, by k_is, ⟨_, _, _, _, _, _, _, _, _, rfl, by k_is, by k_is⟩, by k_is⟩)
    (case m2 => exact ⟨by k_is, by k_is, ⟨_, _, _, _, _, _, _, _, _, rfl, by k_is, by k_is⟩, by k_is⟩)
    (case m3 => exact ⟨by k_is, by k_is, ⟨_, _, _, _, _, _, _, _, _, rfl, by k_is, by k_is⟩, by k_is⟩)
    (case m4 => exact ⟨by k_is, by k_is, ⟨_, _, _, _, _, _, _, _, _, rfl, by k_is, by k_is⟩, by k_is⟩)
    (case m5 => exact ⟨by k_is, by k_is, ⟨_, _, _, _, _, _, _, _, _, rfl, by k_is, by k_is⟩, by k_is⟩)
    (case m6 => exact ⟨by k_is, by k_is, ⟨_, _, _, _, _, _, _, _, _, rfl, by k_is, by k_is⟩, by k_is⟩)
    (case m7 => exact ⟨by k_is, by k_is, by k_is⟩)
    (case D7 => exact ⟨⟨_, _, _, _, _, _, _, _, _, _, _, _, _, _, _, rfl, by k_is, by k_is, by k_is, ⟨_, rfl⟩⟩, by k_is⟩)
    (case m8 => exact ⟨by k_is, by k_is, by k_is⟩)
    (case D8 => exact ⟨⟨_, _, _, _, _, _, _, _, _, _, _, _, _, _, _, rfl, by k_is, by k_is, by k_is, rfl⟩, by k_is⟩)
    (case m9 => exact ⟨by k_is, by k_is, by k_is⟩)
    (case D9 => exact ⟨⟨_, _, _, _, _, _, _, _, _, _, _, _, _, _, _, rfl, by k_is, by k_is, by k_is, rfl⟩, by k_is⟩)
#print axioms PySem.Challenge.cw_rulesonrules_k01_signatures_made_or_refu_holds
