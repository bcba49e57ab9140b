import PyProof.Rows.All
import Wide.All
import OpenK.AllK
import Wide.FinOn
import HandS.ForMost
import HandS.Evl
import HandS.DictComp
import HandS.SortKw
import HandS.Conv
import HandS.IsInst
import HandS.Flow
import HandS.Defaults
import HandS.Lambda
import KE.SortKeyHeap
import HandS.Walk
import PyProof.TupleOfGen
import KE.KDictSum
import KE.GoesMore
import HandS.More
import KE.GoesEnum
import HandS.Text
import PyProof.StrOps2
import HandS.TupMul
import HandS.Codes
import KE.IntTextText
import HandS.Rev
import KE.KNestM
import HandS.EndOwn
import PySem.Challenge.RW_rulesonrules_k00_names_letters_and_texts
set_option Elab.async false
set_option linter.all false
set_option maxRecDepth 100000
set_option maxHeartbeats 4000000
-- KSort
/-! sorted(xs, key=f) of texts over the hand layer; max with a default -/
namespace KSort
open PySem PySem.Spec PyProof.Rows L2
section
variable {X : Cx} {pins : List (Addr × Obj)} {σ : L2.St} {H : Hp} {s : Shared}
/-- the value is this text -/
def TxtOf (v : Value) (x : Str) : Prop := ∃ t, v = Value.str x t
theorem each_txt : ∀ {ss : List Str} {us : List Value}, Vals (ss.map V.str) us → PySem.W.EachIs TxtOf us ss
  | [], us, h => by
    cases us with
    | nil => exact .nil
    | cons u us => cases h
  | x :: ss, us, h => by
    cases us with
    | nil => cases h
    | cons u us =>
      cases h with
      | cons r t => exact .cons r (each_txt t)
theorem vals_txt : ∀ {ss : List Str} {us : List Value}, PySem.W.EachIs TxtOf us ss → Vals (ss.map V.str) us
  | _, _, .nil => .nil
  | _, _, .cons r t => .cons r (vals_txt t)
/-- the sort by a key that is pure at each of the texts -/
theorem sorted_by_run {a f : Addr} {ss : List Str} {k : Str → PyData} {Q : VK} (I : Inv X pins σ H s) (hs : SqL X.K H a (ss.map V.str)) (hal : PySem.W.AllAlike (ss.map k)) (hso : PySem.W.Sortable (ss.map k))
    (hu : ∀ x ∈ ss, X.A.units + 2 + (k x).depth < cLine)
    (turn : ∀ x ∈ ss, ∀ (t : Tok) (h : Heap) (tk : Nat), (∀ b o, s.heap.get? b = some o → h.get? b = some o) →
      wpAny (model X.prog X.w) X.A.in1.in1 (call (.ref f) [.str x t]) (PySem.W.KeyPure (k x) { s with heap := h, toks := tk }) (fun _ _ => False) { s with heap := h, toks := tk })
    (q : ∀ p, H p = none → Q (.ref p) (upd H p (.lst ((ss.mergeSort (PySem.W.dataLe false k)).map V.str)))) :
    wpAny (model X.prog X.w) X.A (call (.builtin "sorted") [.ref a] [(Str.ofString "key", .ref f)]) (EP X pins σ Q) X.xe s := by
  obtain ⟨its, rv, hl, hz⟩ := I.list hs
  have hz' : ss.length ≤ sizeLine := by
    rw [List.length_map] at hz
    exact hz
  refine PySem.W.sorted_key_data (b := false) (R := TxtOf) k hl.isList (each_txt rv) hal hso hz' hu (ksk_s1 _ _) (fun _ => ksk_l1 _ _) (fun x => ksk_t1 f x) ?_ ?_
  · rintro v x ⟨t, rfl⟩ hx h tk hk
    exact turn x hx t h tk hk
  · intro out c h' tk hk fresh hD hlen hE
    have hv := vals_txt hE
    refine ⟨.ref (s.heap.objs.size + 1), upd H (s.heap.objs.size + 1) (.lst ((ss.mergeSort (PySem.W.dataLe false k)).map V.str)), I.laid hk (Nat.le_succ _) ?_, rfl, q _ (I.hok.fresh (Nat.le_succ _))⟩
    refine ⟨?_, out, c, hv, hD⟩
    rw [List.length_map, List.length_mergeSort]
    exact hz'
end
end KSort
-- KPure
/-! pure expressions of one call: they keep all objects that stood -/
namespace KPure
open PySem PySem.Spec PyProof.Rows L2
section
variable {P : Program} {w : World} {A : Around} {E : Value → Shared → Prop} {env : Env} {s₀ : Shared} {L : Addr} {m : Str → Option Value}
/-- the expression's value, from any state of this call -/
def PV (P : Program) (w : World) (A : Around) (E : Value → Shared → Prop) (env : Env) (s₀ : Shared) (L : Addr) (m : Str → Option Value) (e : Expr) (W : Heap → Value → Prop) : Prop :=
  ∀ s, InCall s₀ L m s → wpAny (model P w) A (eval e env) (fun v s' => InCall s₀ L m s' ∧ W s'.heap v ∧ ∀ b o, s.heap.get? b = some o → s'.heap.get? b = some o) E s
theorem pv_name {x : Str} {v : Value} {pos : Pos} (hL : env.locals = L) (hk : env.scope.kind = .function) (hl : env.kindOf x = some .local) (hv : m x = some v) (hd : (x == ("__debug__" : Str)) = false := by decide) :
    PV P w A E env s₀ L m (.Name x pos) (fun _ u => u = v) := fun s I => by
  subst hL
  exact wpAny_Name (wpAny_loadName_local hk hl I.ns hv ⟨I, rfl, fun _ _ h => h⟩) hd
theorem pv_sub0 {a : Expr} {x : Str} {t : Tok} {c : Nat} {j : Nat} {p pos : Pos} (ha : PV P w A E env s₀ L m a (fun _ u => u = .str x t)) (hc : x.cps[0]? = some c) (hn : 0 < x.length) :
    PV P w A E env s₀ L m (.Subscript a (.Constant (.int 0) j p) pos) (fun _ u => ∃ t, u = .str ⟨#[c]⟩ t) := fun s I => by
  refine Subscript_ (thn (ha s I) fun v s1 ⟨I1, e, k1⟩ => ?_)
  subst e
  refine wpAny_Constant_int ?_
  have e : seqIndex? 0 x.length = some 0 := PySem.StrLaws.seqIndex_nonneg (Int.le_refl 0) (by omega)
  refine tail_any (ops := [.int 0 s1.toks, .str x t]) (typeIs_str _ x t) slot_str_getitem.lookup (getItem_str (c := c) rfl (by rw [e]; exact hc) ⟨(I1.tok _).tok _, ⟨_, rfl⟩, k1⟩) (by with_unfolding_all rfl)
/-- e[1:] of a text -/
theorem pv_sl1 {a : Expr} {x : Str} {t : Tok} {j : Nat} {p q pos : Pos} (ha : PV P w A E env s₀ L m a (fun _ u => u = .str x t)) (hz : x.length ≤ sizeLine) :
    PV P w A E env s₀ L m (.Subscript a (.Slice (some (.Constant (.int 1) j p)) none none q) pos) (fun _ u => ∃ t, u = .str (cutS x (some 1) none) t) := fun s I => by
  refine Subscript_ (thn (ha s I) fun v s1 ⟨I1, e, k1⟩ => ?_)
  subst e
  refine wpAny_Slice ?_
  rw [evalPart_some]
  refine wpAny_Constant_int ?_
  rw [evalPart_none]
  refine wpAny_pure ?_
  refine wpAny_pure ?_
  have I2 := I1.pushedS { cls := .type "slice", data := .fields #[.int 1 s1.toks, .none, .none] } (s1.toks + 1)
  have k2 : ∀ b o, s.heap.get? b = some o → (s1.heap.push { cls := .type "slice", data := .fields #[.int 1 s1.toks, .none, .none] }).get? b = some o := fun b o h => Heap.get?_push_of_some _ (k1 b o h)
  refine tail_any (ops := [.ref s1.heap.objs.size, .str x t]) (typeIs_str _ x t) slot_str_getitem.lookup
    (wpAny_getItem_str_slice (l := some (1, s1.toks)) (u := none) (st := none) ⟨_, Heap.get?_push_size _ rfl, rfl, rfl⟩ rfl ?_) (by with_unfolding_all rfl)
  have e2 := sliceText_cut x (some 1) none
  have e3 : (PySem.StrLaws.sliceText x (some 1) none).length ≤ sizeLine := by
    rw [e2]
    exact Nat.le_trans (cutS_length x (some 1) none) hz
  unfold PySem.StrLaws.sliceText at e2 e3
  show Made.post (if ((1 : Int) == 1 && (Builtin.Str.strSliceIndices (some 1) none 1 x.length).length == x.length) = true then Made.val (.str x t) else Made.str ⟨((Builtin.Str.strSliceIndices (some 1) none 1 x.length).filterMap (x.cps[·]?)).toArray⟩) _ _
  by_cases c : ((1 : Int) == 1 && (Builtin.Str.strSliceIndices (some 1) none 1 x.length).length == x.length) = true
  · rw [if_pos c] at e2 ⊢
    exact ⟨I2, ⟨t, by rw [← e2]⟩, k2⟩
  · rw [if_neg c] at e2 e3 ⊢
    rw [← e2]
    exact ⟨e3, I2.tok _, ⟨_, rfl⟩, k2⟩
/-- a built-in name -/
theorem pv_blt {mg mb : Str → Option Value} {x : Str} {u : Value} {p : Pos} {s : Shared} {Q : Value → Shared → Prop} (hk : env.scope.kind = .function) (hg : env.kindOf x = some .globalImplicit) (nG : s.heap.Ns env.globals mg) (hm : mg x = none) (nB : s.heap.Ns env.builtins mb) (hv : mb x = some u)
    (hd : (x == ("__debug__" : Str)) = false) (h : Q u s) : wpAny (model P w) A (eval (.Name x p) env) Q E s :=
  Calls.Name_function_global hk hg (Calls.loadGlobal_builtin nG hm nB hv h) hd
/-- int(a), len(a) -/
theorem pv_int {mg mb : Str → Option Value} {a : Expr} {x : Str} {n : Int} {p pos : Pos} (hk : env.scope.kind = .function) (hg : env.kindOf "int" = some .globalImplicit) (nG : s₀.heap.Ns env.globals mg) (hm : mg "int" = none) (nB : s₀.heap.Ns env.builtins mb) (hv : mb "int" = some (.type "int"))
    (ha : PV P w A E env s₀ L m a (fun _ u => ∃ t, u = .str x t)) (hx : PySem.intText? x = some n) (hl : x.length ≤ 640) (hs : starEach [a] env = (false, eval a env) :: starEach [] env := by rfl) :
    PV P w A E env s₀ L m (.Call (.Name "int" p) [a] [] pos) (fun _ u => ∃ t, u = .int n t) := fun s I => by
  refine wpAny_Call_Name_kw (pv_blt hk hg (nG.keeps I.keep) hm (nB.keeps I.keep) hv (by decide) ?_)
  refine PyProof.Rows.callWith_type1 (args_cons (thn (ha s I) fun v s1 ⟨I1, ⟨t, e⟩, k1⟩ => args_nil ?_) hs) hs rfl
  subst e
  exact PySem.W.KIN.call_text hx hl ⟨I1.tok _, ⟨_, rfl⟩, k1⟩
theorem pv_len {mg mb : Str → Option Value} {a : Expr} {x : Str} {p pos : Pos} (hk : env.scope.kind = .function) (hg : env.kindOf "len" = some .globalImplicit) (nG : s₀.heap.Ns env.globals mg) (hm : mg "len" = none) (nB : s₀.heap.Ns env.builtins mb) (hv : mb "len" = some (.builtin "len"))
    (ha : PV P w A E env s₀ L m a (fun _ u => ∃ t, u = .str x t)) (hl : x.length ≤ 100000) (hs : starEach [a] env = (false, eval a env) :: starEach [] env := by rfl) :
    PV P w A E env s₀ L m (.Call (.Name "len" p) [a] [] pos) (fun _ u => ∃ t, u = .int (x.length : Int) t) := fun s I => by
  refine wpAny_Call_Name_kw (pv_blt hk hg (nG.keeps I.keep) hm (nB.keeps I.keep) hv (by decide) ?_)
  refine PyProof.Rows.callWith_builtin1 (args_cons (thn (ha s I) fun v s1 ⟨I1, ⟨t, e⟩, k1⟩ => args_nil ?_) hs) hs rfl
  subst e
  exact len_str (by omega) ⟨(I1.tok _).tok _, ⟨_, rfl⟩, k1⟩
/-- a text or a whole number, as a value -/
def Atom (k : PyData) (u : Value) : Prop := (∃ y t, k = .str y ∧ u = .str y t) ∨ ∃ i t, k = .int i ∧ u = .int i t
theorem Atom.reads {h : Heap} {k : PyData} {u : Value} (r : Atom k u) : Reads h u k [] := by
  rcases r with ⟨y, t, rfl, rfl⟩ | ⟨i, t, rfl, rfl⟩
  · exact .str y t
  · exact .int i t
theorem PV.imp {e : Expr} {W W' : Heap → Value → Prop} (h : PV P w A E env s₀ L m e W) (hi : ∀ g u, W g u → W' g u) : PV P w A E env s₀ L m e W' := fun s I => thn (h s I) fun v s' ⟨a, b, c⟩ => ⟨a, hi _ _ b, c⟩
theorem reads_two {h : Heap} {u v : Value} {ka kb : PyData} (r1 : Reads h u ka []) (r2 : Reads h v kb []) : ReadsAll h [u, v] [ka, kb] [] := .cons r1 (.cons r2 .nil)
theorem reads_three {h : Heap} {u v z : Value} {ka kb kc : PyData} (r1 : Reads h u ka []) (r2 : Reads h v kb []) (r3 : Reads h z kc []) : ReadsAll h [u, v, z] [ka, kb, kc] [] := .cons r1 (.cons r2 (.cons r3 .nil))
/-- (a, b) as data -/
theorem pv_tup2 {a b : Expr} {ka kb : PyData} {x1} {pos : Pos} (ha : PV P w A E env s₀ L m a fun _ u => Atom ka u) (hb : PV P w A E env s₀ L m b fun _ u => Atom kb u)
    (h1 : starEach [a, b] env = (false, eval a env) :: starEach [b] env := by rfl) (h2 : starEach [b] env = (false, eval b env) :: starEach [] env := by rfl) :
    PV P w A E env s₀ L m (.Tuple [a, b] x1 pos) (fun h u => Reads h u (.tuple [ka, kb]) []) := fun s I => by
  refine wpAny_Tuple_spliced ?_
  refine args_cons (thn (ha s I) fun u s1 ⟨I1, r1, k1⟩ => args_cons (thn (hb s1 I1) fun v s2 ⟨I2, r2, k2⟩ => args_nil ?_) h2) h1
  refine ⟨(by show 2 ≤ sizeLine; decide), I2.pushedS _ _, ?_, fun b o e => Heap.get?_push_of_some _ (k2 b o (k1 b o e))⟩
  exact .tuple (Heap.get?_push_size _ rfl) rfl rfl (reads_two r1.reads r2.reads)
theorem pv_tup3 {a b c : Expr} {ka kb kc : PyData} {x1} {pos : Pos} (ha : PV P w A E env s₀ L m a fun _ u => Atom ka u) (hb : PV P w A E env s₀ L m b fun _ u => Atom kb u) (hc : PV P w A E env s₀ L m c fun _ u => Atom kc u)
    (h1 : starEach [a, b, c] env = (false, eval a env) :: starEach [b, c] env := by rfl) (h2 : starEach [b, c] env = (false, eval b env) :: starEach [c] env := by rfl) (h3 : starEach [c] env = (false, eval c env) :: starEach [] env := by rfl) :
    PV P w A E env s₀ L m (.Tuple [a, b, c] x1 pos) (fun h u => Reads h u (.tuple [ka, kb, kc]) []) := fun s I => by
  refine wpAny_Tuple_spliced ?_
  refine args_cons (thn (ha s I) fun u s1 ⟨I1, r1, k1⟩ => args_cons (thn (hb s1 I1) fun v s2 ⟨I2, r2, k2⟩ => args_cons (thn (hc s2 I2) fun z s3 ⟨I3, r3, k3⟩ => args_nil ?_) h3) h2) h1
  refine ⟨(by show 3 ≤ sizeLine; decide), I3.pushedS _ _, ?_, fun b o e => Heap.get?_push_of_some _ (k3 b o (k2 b o (k1 b o e)))⟩
  exact .tuple (Heap.get?_push_size _ rfl) rfl rfl (reads_three r1.reads r2.reads r3.reads)
end
end KPure
-- KKey
/-! a def of the text as the key of a sort: it is pure -/
namespace KKey
open PySem PySem.Spec PyProof.Rows L2 KSort KPure
/-- f(x) is pure and gives the key k x, wherever the room allows -/
def KeyFn (P : Program) (w : World) (K : PySem.W.Frag) (mg : Str → Option Value) (base : Heap) (f : Addr) (C : Str → Prop) (k : Str → PyData) : Prop :=
  ∀ (A : Around) (s : Shared) (x : Str) (t : Tok), C x → Mod K mg base → (∀ b o, base.get? b = some o → s.heap.get? b = some o) → Room 1 A →
    wpAny (model P w) A (call (.ref f) [.str x t]) (PySem.W.KeyPure (k x) s) (fun _ _ => False) s
section
variable {P : Program} {w : World} {K : PySem.W.Frag} {mg : Str → Option Value} {base : Heap}
/-- def f(x): return (x[0], int(x[1:])) -/
theorem key_cap_num {f : Addr} {nm : Str} {pars : Arguments} {body : List Stmt} {scope : Scope} {dV kV doc pm cdv ct oc : Value} {an od : Option Addr} {osl : Array (Option Value)} {C : Str → Prop} {cp : Str → Nat} {num : Str → Int} {p1 p2 p3 p4 p5 p6 p7 p8 p9 p10 p11 : Pos} {j1 j2 : Nat} {x1 : Nat} {a : Str}
    (lk : K.lookup f = some ⟨oc, od, .func (PySem.W.fnOf nm nm pars body scope dV kV doc pm an cdv ct), osl⟩) (hcd : PySem.W.codeIn K cdv nm = true)
    (hb : body = [.Return (some (.Tuple [.Subscript (.Name a p1) (.Constant (.int 0) j1 p2) p3, .Call (.Name "int" p4) [.Subscript (.Name a p5) (.Slice (some (.Constant (.int 1) j2 p6)) none none p7) p8] [] p9] x1 p10)) p11])
    (hk : scope.kind = .function) (hco : scope.isCoroutine = false) (hgn : scope.isGenerator = false) (hloc : scope.names.lookup a = some .local) (hint : scope.names.lookup ("int" : Str) = some .globalImplicit) (hcell : ∀ x ∈ scope.names, x.2 ≠ .cell) (had : (a == ("__debug__" : Str)) = false)
    (hbind : ∀ u : Value, bindArgs (PySem.W.fnOf nm nm pars body scope dV kV doc pm an cdv ct) ⟨[u], []⟩ = pure [(a, u)]) (mi : mg "int" = none)
    (hc : ∀ x, C x → x.cps[0]? = some (cp x) ∧ 0 < x.length ∧ x.length ≤ 640 ∧ PySem.intText? (cutS x (some 1) none) = some (num x)) :
    KeyFn P w K mg base f C fun x => .tuple [.str ⟨#[cp x]⟩, .int (num x)] := by
  intro A s x t hx M kp hr
  obtain ⟨c0, c1, c2, c3⟩ := hc x hx
  subst hb
  have nG : s.heap.Ns mainGlobals mg := M.glob.keeps kp
  obtain ⟨mb, nb, hmb⟩ := M.blt
  have nB := nb.keeps kp
  have KX : K.In s.heap := M.kin.keeps kp
  have hs : sizeLine = 16777216 := sizeLine_eq
  refine wpAny_call (codeAny_call_straight hr.depth (KX _ _ lk) rfl (M.nolimit.keeps kp) (PySem.W.codeRec_of KX hcd) rfl (hbind (.str x t)) hcell (fun y hy => ?_) (fun s1 I1 => ?_) hco hgn hk)
  · rw [List.mem_singleton.mp hy]
    exact hloc
  generalize hfd : PySem.W.fnOf nm nm pars _ scope dV kV doc pm an cdv ct = fd at I1
  have e1 : (callEnv fd s.heap.objs.size f).locals = s.heap.objs.size := rfl
  have e2 : (callEnv fd s.heap.objs.size f).scope = scope := by rw [← hfd]; rfl
  have e3 : (callEnv fd s.heap.objs.size f).kindOf a = some .local := by rw [← hfd]; exact hloc
  have e4 : (callEnv fd s.heap.objs.size f).kindOf ("int" : Str) = some .globalImplicit := by rw [← hfd]; exact hint
  have e5 : (callEnv fd s.heap.objs.size f).scope.kind = .function := by rw [e2]; exact hk
  have e6 : (callEnv fd s.heap.objs.size f).globals = mainGlobals := by rw [← hfd]; rfl
  have e7 : (callEnv fd s.heap.objs.size f).builtins = builtinsNs := by rw [← hfd]; rfl
  have va : ∀ {q : Pos} {E : Value → Shared → Prop}, PV P w (A.deeper (callEnv fd s.heap.objs.size f)) E (callEnv fd s.heap.objs.size f) s s.heap.objs.size (fun y => List.lookup y [(a, Value.str x t)].reverse) (.Name a q) (fun _ u => u = .str x t) :=
    fun {q E} => pv_name e1 e5 e3 (by simp) had
  refine wpAny_execs_cons (wpAny_Return_some (thn (pv_tup2 (x1 := x1) (pos := p10) (ka := .str ⟨#[cp x]⟩) (kb := .int (num x))
    ((pv_sub0 (j := j1) (p := p2) (pos := p3) (va (q := p1)) c0 c1).imp fun _ u he => .inl ⟨_, he.choose, rfl, he.choose_spec⟩)
    ((pv_int (p := p4) (pos := p9) e5 e4 (by rw [e6]; exact nG) mi (by rw [e7]; exact nB) ((hmb "int" (by decide)).trans boot_int) (pv_sl1 (j := j2) (p := p6) (q := p7) (pos := p8) (va (q := p5)) (by omega)) c3 (Nat.le_trans (cutS_length x (some 1) none) c2)).imp
      fun _ u he => .inr ⟨_, he.choose, rfl, he.choose_spec⟩) rfl rfl s1 I1) fun u s2 ⟨I2, r2, k2⟩ => ?_))
  obtain ⟨h', tk, e, kp2⟩ := I2.done
  subst e
  exact ⟨h', tk, rfl, kp2, r2⟩
end
/-- sorted(xs, key=f), f a def that is pure -/
def rSortKey (K : PySem.W.Frag) (f : Addr) (C : Str → Prop) (k : Str → PyData) : List V → List V → Hp → VK → Prop := fun vs zs H Q => ∃ (a : Addr) (ss : List Str), vs = [.ref a] ∧ zs = [.ref f] ∧ SqL K H a (ss.map V.str) ∧ (∀ x ∈ ss, C x) ∧
  ∀ p, H p = none → Q (.ref p) (upd H p (.lst ((ss.mergeSort (PySem.W.dataLe false k)).map V.str)))
theorem Inv.bkAll {X : Cx} {pins : List (Addr × Obj)} {σ : L2.St} {H : Hp} {s : Shared} {h : Heap} {tk : Nat} (I : Inv X pins σ H s) (kp : ∀ b o, s.heap.get? b = some o → h.get? b = some o) : ∀ b o, X.base.get? b = some o → h.get? b = some o := fun b o e => kp b o (I.bk b o e)
theorem cr_sortKey {X : Cx} {f : Addr} {C : Str → Prop} {k : Str → PyData} (F : KeyFn X.prog X.w X.K X.mg X.base f C k) (hr : Room 3 X.A) (hal : ∀ x y, C x → C y → PySem.W.alike (k x) (k y) = true) (htup : ∀ x, C x → ∃ y r, k x = .tuple (y :: r)) (hd : ∀ x, C x → (k x).depth ≤ 8) :
    CallRK X (.builtin "sorted") [Str.ofString "key"] (rSortKey X.K f C k) := by
  intro pins s σ H vs zs us ws Q I r rz h
  obtain ⟨a, ss, rfl, rfl, hs, hC, q⟩ := h
  obtain rfl := Vals.ref1 r
  obtain ⟨w1, rfl, e1⟩ := vals1 rz
  obtain rfl : w1 = Value.ref f := e1
  refine sorted_by_run (k := k) I hs (fun d hd d' hd' => ?_) (.inl fun d hd => ?_) (fun x hx => ?_) (fun x hx t h tk kp => ?_) q
  · obtain ⟨x, hx, rfl⟩ := List.mem_map.mp hd
    obtain ⟨y, hy, rfl⟩ := List.mem_map.mp hd'
    exact hal x y (hC x hx) (hC y hy)
  · obtain ⟨x, hx, rfl⟩ := List.mem_map.mp hd
    exact htup x (hC x hx)
  · have h1 := hr.un
    have h2 := hd x (hC x hx)
    omega
  · exact F _ _ x t (hC x hx) I.mod (fun b o e => kp b o (I.bk b o e)) (hr.in1.in1)
end KKey
-- KLamSort
/-! sorted(xs, key=lambda a: (a[0], len(a), a)) over the hand layer -/
namespace KLamS
open PySem PySem.Spec PyProof.Rows L2 LamX KSort KPure KKey
/-- the lambda's body as a key: (a[0], len(a), a) -/
def lamBody (a : Str) (p1 p2 p3 p4 p5 p6 p7 p8 : Pos) (j1 x1 : Nat) : Expr :=
  .Tuple [.Subscript (.Name a p1) (.Constant (.int 0) j1 p2) p3, .Call (.Name "len" p4) [.Name a p5] [] p6, .Name a p7] x1 p8
/-- the order that this key gives -/
def lamKey (cp : Str → Nat) (x : Str) : PyData := .tuple [.str ⟨#[cp x]⟩, .int (x.length : Int), .str x]
section
variable {P : Program} {w : World} {K : PySem.W.Frag} {mg : Str → Option Value} {base : Heap}
/-- one call of the lambda -/
theorem lam_key_call {A : Around} {s : Shared} {f c' : Addr} {qual : Str} {params : Arguments} {scope : Scope} {pm ctv : Value} {a : Str} {x : Str} {t : Tok} {c : Nat} {p1 p2 p3 p4 p5 p6 p7 p8 : Pos} {j1 x1 : Nat}
    (hf : s.heap.get? f = some (PySem.W.kla_obj "<lambda>" qual params (lamBody a p1 p2 p3 p4 p5 p6 p7 p8 j1 x1) scope [] pm c' ctv)) (hcd : s.heap.CodeRec (.ref c') qual)
    (hk : scope.kind = .function) (hco : scope.isCoroutine = false) (hgn : scope.isGenerator = false) (hloc : scope.names.lookup a = some .local) (hlen : scope.names.lookup ("len" : Str) = some .globalImplicit) (hcell : ∀ x ∈ scope.names, x.2 ≠ .cell) (had : (a == ("__debug__" : Str)) = false)
    (hbind : bindArgs (PySem.W.kla_fn "<lambda>" qual params (lamBody a p1 p2 p3 p4 p5 p6 p7 p8 j1 x1) scope [] pm (.ref c') ctv) ⟨[.str x t], []⟩ = pure [(a, .str x t)]) (ml : mg "len" = none)
    (c0 : x.cps[0]? = some c) (c1 : 0 < x.length) (c2 : x.length ≤ 100000) (M : L2.Mod K mg base) (kp : ∀ b o, base.get? b = some o → s.heap.get? b = some o) (hr : Room 1 A) :
    wpAny (model P w) A (call (.ref f) [.str x t]) (PySem.W.KeyPure (.tuple [.str ⟨#[c]⟩, .int (x.length : Int), .str x]) s) (fun _ _ => False) s := by
  have nG : s.heap.Ns mainGlobals mg := M.glob.keeps kp
  obtain ⟨mb, nb, hmb⟩ := M.blt
  have nB := nb.keeps kp
  refine wpAny_call (PySem.W.kla_callFunE hr.depth hf rfl hco hgn rfl hcd ?_)
  rw [hbind]
  refine wpAny_pure (wpAny_newFunctionEnv hcell (fun y hy => ?_) (fun h₁ hns hsb => ⟨(M.nolimit.keeps kp).fresh _ hsb, ?_⟩) hk)
  · rw [List.mem_singleton.mp hy]
    exact hloc
  have k1 : ∀ b o, s.heap.get? b = some o → h₁.get? b = some o := fun b o e => hsb.extBut b o (Nat.ne_of_lt (Heap.lt_size e)) (Heap.get?_push_of_some _ e)
  refine PySem.W.kla_codeExpr ?_
  have I1 : InCall s s.heap.objs.size (fun y => List.lookup y [(a, Value.str x t)].reverse) { s with heap := h₁, toks := s.toks + [(a, Value.str x t)].length } := ⟨⟨h₁, _, rfl⟩, hns, k1, Nat.le_refl _⟩
  generalize henv : newEnv _ s.heap.objs.size _ _ _ _ _ _ _ = env
  have e1 : env.locals = s.heap.objs.size := by rw [← henv]; rfl
  have e2 : env.scope = scope := by rw [← henv]; rfl
  have e3 : env.kindOf a = some .local := by rw [← henv]; exact hloc
  have e4 : env.kindOf ("len" : Str) = some .globalImplicit := by rw [← henv]; exact hlen
  have e5 : env.scope.kind = .function := by rw [e2]; exact hk
  have e6 : env.globals = mainGlobals := by rw [← henv]; rfl
  have e7 : env.builtins = builtinsNs := by rw [← henv]; rfl
  have va : ∀ {q : Pos} {E : Value → Shared → Prop}, PV P w (A.deeper env) E env s s.heap.objs.size (fun y => List.lookup y [(a, Value.str x t)].reverse) (.Name a q) (fun _ u => u = .str x t) :=
    fun {q E} => pv_name e1 e5 e3 (by simp) had
  refine thn (pv_tup3 (x1 := x1) (pos := p8) (ka := .str ⟨#[c]⟩) (kb := .int (x.length : Int)) (kc := .str x)
    ((pv_sub0 (j := j1) (p := p2) (pos := p3) (va (q := p1)) c0 c1).imp fun _ u he => .inl ⟨_, he.choose, rfl, he.choose_spec⟩)
    ((pv_len (p := p4) (pos := p6) e5 e4 (by rw [e6]; exact nG) ml (by rw [e7]; exact nB) ((hmb "len" (by decide)).trans boot_len) ((va (q := p5)).imp fun _ u he => ⟨t, he⟩) c2).imp
      fun _ u he => .inr ⟨_, he.choose, rfl, he.choose_spec⟩)
    ((va (q := p7)).imp fun _ u he => .inl ⟨x, t, rfl, he⟩) rfl rfl rfl _ I1) fun u s2 ⟨I2, r2, k2⟩ => ?_
  obtain ⟨h', tk, e, kp2⟩ := I2.done
  subst e
  exact ⟨h', tk, rfl, kp2, r2⟩
end
/-- the reading: the list, then a new list that is sorted by the lambda's key; the tables may grow -/
def tSortLam (K : PySem.W.Frag) (T : List (Addr × Str)) (cp : Str → Nat) (te : TE) : TE := fun σ H Q => te σ H fun v H1 => ∃ (a : Addr) (ss : List Str), v = .ref a ∧ SqL K H1 a (ss.map V.str) ∧ (∀ x ∈ ss, x.cps[0]? = some (cp x) ∧ 0 < x.length ∧ x.length ≤ 100000) ∧ Tabs T H1 ∧
  ∀ H2, ExtN H1 H2 → Tabs T H2 → ∀ p, H2 p = none → Q (.ref p) (upd H2 p (.lst ((ss.mergeSort (PySem.W.dataLe false (lamKey cp))).map V.str)))
theorem seq_extN {K : PySem.W.Frag} {H H' : Hp} {a : Addr} {xs : List V} (e : ExtN H H') (h : SqL K H a xs) : SqL K H' a xs := by
  rcases h with (h | ⟨o, h⟩) | h
  · exact .inl (.inl (e _ _ h fun ps z => by cases z))
  · exact .inl (.inr ⟨o, e _ _ h fun ps z => by cases z⟩)
  · exact .inr h
theorem pe_sortLam {X : Cx} {T : List (Addr × Str)} {c P : Addr} {cp : Str → Nat} {e : Expr} {te : TE} {params : Arguments} {scope : Scope} {a : Str} {p pos lpos kpos : Pos} {p1 p2 p3 p4 p5 p6 p7 p8 : Pos} {j1 x1 : Nat}
    (hg : Gl X "sorted") (hm : X.mg "sorted" = none) (he : PE X e te) (TB : TabB X.base X.mg c P) (hcode : X.env.code = .ref c) (hmT : (P, X.env.qual ++ "<lambda>") ∈ T) (hu : ∀ p ∈ T, p.1 = P → p.2 = X.env.qual ++ "<lambda>") (hdef : defaultsOf params X.env = ([], []))
    (hk : scope.kind = .function) (hco : scope.isCoroutine = false) (hgn : scope.isGenerator = false) (hloc : scope.names.lookup a = some .local) (hlen : scope.names.lookup ("len" : Str) = some .globalImplicit) (hcell : ∀ x ∈ scope.names, x.2 ≠ .cell) (hfree : ∀ x ∈ scope.names, x.2 ≠ .free)
    (hbind : ∀ (q : Str) (pm cv ctv u : Value), bindArgs (PySem.W.kla_fn "<lambda>" q params (lamBody a p1 p2 p3 p4 p5 p6 p7 p8 j1 x1) scope [] pm cv ctv) ⟨[u], []⟩ = pure [(a, u)]) (hclo : cloFrom X.env.cells scope.names [] = []) (ml : X.mg "len" = none) (hr : Room 3 X.A)
    (had : (a == ("__debug__" : Str)) = false := by decide) (hst : starEach [e] X.env = (false, eval e X.env) :: starEach [] X.env := by rfl)
    (hback : backTo pos (starEach [e] X.env) = (false, eval e X.env) :: backTo pos (starEach [] X.env) := by rfl) (hpl : (backTo pos (starEach [e] X.env)).any (·.1) = false := by rfl) :
    PE X (.Call (.Name "sorted" p) [e] [⟨some "key", .Lambda params (lamBody a p1 p2 p3 p4 p5 p6 p7 p8 j1 x1) scope lpos, kpos⟩] pos) (tSortLam X.K T cp te) := by
  refine ⟨fun pins s σ H Q I h => ?_⟩
  refine wpAny_Call_Name_kw (ld_blt I hg hm (by decide +kernel : bootBuiltins ("sorted" : Str) = some (.builtin "sorted")) ?_)
  refine PyProof.Rows.callWith_kw (args_cons (thn (he.run pins s σ H _ I h) fun v s1 ⟨y, H1, I1, r1, al, ss, ey, hs, hC, hT, q⟩ => args_nil ?_) hst) hback hpl rfl rfl
  subst ey
  obtain rfl : v = Value.ref al := r1
  show wpAny _ _ (evalAll [(do let v ← eval (.Lambda params (lamBody a p1 p2 p3 p4 p5 p6 p7 p8 j1 x1) scope lpos) X.env; standAt pos; pure v)]) _ _ s1
  refine wpAny_evalAll_cons (wpAny_bind (lam_make2 I1 TB hcode hmT hu hT hdef (fun y hy e => absurd e (hfree y hy)) fun f c' pm ctv H2 s2 I2 eN T2 hf hfn hfr hco' => wpAny_bind (wpAny_standAt (wpAny_pure (wpAny_evalAll_nil ?_)))))
  show wpAny _ _ (call (.builtin "sorted") [.ref al] [(Str.ofString "key", .ref f)]) _ _ s2
  rw [hclo] at hf
  obtain ⟨⟨oc, vs, tq, g1, g2, g3⟩, _, _⟩ := I2.hok c' _ hco'
  refine sorted_by_run (k := lamKey cp) I2 (seq_extN eN hs) (fun d hd d' hd' => ?_) (.inl fun d hd => ?_) (fun x hx => ?_) (fun x hx t h tk kp => ?_) (q H2 eN T2)
  · obtain ⟨x, hx, rfl⟩ := List.mem_map.mp hd
    obtain ⟨y, hy, rfl⟩ := List.mem_map.mp hd'
    rfl
  · obtain ⟨x, hx, rfl⟩ := List.mem_map.mp hd
    exact ⟨_, _, rfl⟩
  · have h1 := hr.un
    show X.A.units + 2 + 1 < cLine
    omega
  · obtain ⟨b0, b1, b2⟩ := hC x hx
    exact lam_key_call (kp _ _ hf) ⟨c', oc, vs, tq, rfl, kp _ _ g1, g2, g3⟩ hk hco hgn hloc hlen hcell had (hbind _ _ _ _ _) ml b0 b1 b2 I2.mod (fun b o e => kp b o (I2.bk b o e)) (hr.in1.in1)
end KLamS
-- KMaxD
/-! max(xs, default=d) of a list of whole numbers -/
namespace KMaxD
open PySem PySem.Spec PyProof.Rows L2
section
variable {pr : Program} {w : World} {A : Around} {R : Result → Shared → Prop} {J : Addr} {fp wr : List Addr} {n : Nat} {Pn : Nat → Value → Prop} {Sn : Nat → Heap → Prop} {dk : Str} {dv : Value}
def bestObj (l : Array Value) (c : Nat) : Obj := { cls := .type "list", dict := none, data := .seq l c, slots := #[] }
abbrev loopCode (J B : Addr) (dk : Str) (dv : Value) : Code := .builtin "max.loop" ⟨[.ref J, .none, .ref B], [(dk, dv)]⟩
theorem nm_eq : (toString "max" ++ toString ".loop" : String) = "max.loop" := by decide
/-- from a best one on -/
theorem loop_on (W : Walks pr w A.in1 J fp wr n Pn Sn) (bt : Nat → Nat → Bool) (cmp : CmpOf pr w A.in1 .Gt Pn bt) (B : Addr) (nB : B ∉ fp) : ∀ (k i : Nat) (s : Shared) (best : Value) (c : Nat), n = i + 1 + k → Sn (i + 1) s.heap → Pn (argBest bt i) best →
    s.heap.get? B = some (bestObj #[best, best] c) → (∀ v g tk, Pn (argBest bt (n - 1)) v → (∀ b o, b ∉ wr → b ≠ B → s.heap.get? b = some o → g.get? b = some o) → R (.ok (.ret v)) { s with heap := g, toks := tk }) → codeAny (model pr w) A (loopCode J B dk dv) R s
  | 0, i, s, best, c, hn, st, pb, ob, fin => by
    have nW : B ∉ wr := fun z => nB (W.sub _ z)
    refine codeAny_builtin F.entry_max_loop ?_
    rw [Around.under_plainId F.plain_max_loop _]
    show wpAny _ A.in1 (seqItems? (.ref B) >>= _) _ _ s
    refine wpAny_bind (wpAny_seqItems ob rfl ?_)
    show wpAny _ A.in1 (tryCatch (pyNext (.ref J)) _ >>= _) _ _ s
    have hi : i + 1 = n := by omega
    refine wpAny_bind (wpAny_tryCatch (W.done s _ _ (hi ▸ st) fun g tk kp => ?_))
    show wpAny _ A.in1 (updateSeq B (fun _ => #[]) >>= _) _ _ _
    refine wpAny_bind (wpAny_updateSeq (kp B _ nW ob) rfl (wpAny_bind (wpAny_letGo (wpAny_pure (fin best _ tk ?_ ?_)))))
    · rw [← hi]
      exact pb
    · exact fun b o h1 h2 e => (Heap.get?_update_other _ _ (Ne.symm h2)).trans (kp b o h1 e)
  | k + 1, i, s, best, c, hn, st, pb, ob, fin => by
    have nW : B ∉ wr := fun z => nB (W.sub _ z)
    refine codeAny_builtin F.entry_max_loop ?_
    rw [Around.under_plainId F.plain_max_loop _]
    show wpAny _ A.in1 (seqItems? (.ref B) >>= _) _ _ s
    refine wpAny_bind (wpAny_seqItems ob rfl ?_)
    show wpAny _ A.in1 (tryCatch (pyNext (.ref J)) _ >>= _) _ _ s
    refine wpAny_bind (wpAny_tryCatch (W.item (i + 1) s _ _ (by omega) st fun v g tk pv st1 kp => ?_))
    have ob1 := kp B _ nW ob
    show wpAny _ A.in1 (tryCatch (holding [v, v] (richCompare .Gt v best >>= _)) _ >>= _) _ _ _
    refine wpAny_bind (wpAny_tryCatch (wpAny_holding (wpAny_bind (cmp (i + 1) (argBest bt i) v best _ _ _ pv pb ?_))))
    refine wpAny_bind (wpAny_holding (wpAny_truthy_bool (wpAny_bind (wpAny_letGo (wpAny_pure ?_)))))
    cases hb : bt (i + 1) (argBest bt i) with
    | true =>
      simp only [if_true]
      refine wpAny_bind (wpAny_updateSeq ob1 rfl (wpAny_bind (wpAny_letGo ?_)))
      rw [nm_eq]
      refine wpAny_pure ⟨plainId_quiet F.plain_max_loop _, loop_on W bt cmp B nB k (i + 1) _ v _ (by omega) (W.frame _ _ _ st1 fun b hb' o e => ?_) (by simp only [argBest, hb, if_true]; exact pv) (Heap.get?_update_self _ ob1 rfl) fun v' g' tk' p' kp' => ?_⟩
      · exact (Heap.get?_update_other _ _ (fun z : B = b => nB (z ▸ hb'))).trans e
      · exact fin v' g' tk' p' fun b o h1 h2 e => kp' b o h1 h2 ((Heap.get?_update_other _ _ (Ne.symm h2)).trans (kp b o h1 e))
    | false =>
      simp only [Bool.false_eq_true, if_false]
      refine wpAny_bind (wpAny_letGo ?_)
      rw [nm_eq]
      refine wpAny_pure ⟨plainId_quiet F.plain_max_loop _, loop_on W bt cmp B nB k (i + 1) _ best c (by omega) st1 (by simp only [argBest, hb, Bool.false_eq_true, if_false]; exact pb) ob1 fun v' g' tk' p' kp' => ?_⟩
      exact fin v' g' tk' p' fun b o h1 h2 e => kp' b o h1 h2 (kp b o h1 e)
/-- the first turn: no item, the default; else on -/
theorem loop_first (W : Walks pr w A.in1 J fp wr n Pn Sn) (bt : Nat → Nat → Bool) (cmp : CmpOf pr w A.in1 .Gt Pn bt) (B : Addr) (nB : B ∉ fp) {s : Shared} {c : Nat} (st : Sn 0 s.heap) (ob : s.heap.get? B = some (bestObj #[] c))
    (fin : ∀ v g tk, (if n = 0 then v = dv else Pn (argBest bt (n - 1)) v) → (∀ b o, b ∉ wr → b ≠ B → s.heap.get? b = some o → g.get? b = some o) → R (.ok (.ret v)) { s with heap := g, toks := tk }) : codeAny (model pr w) A (loopCode J B dk dv) R s := by
  have nW : B ∉ wr := fun z => nB (W.sub _ z)
  refine codeAny_builtin F.entry_max_loop ?_
  rw [Around.under_plainId F.plain_max_loop _]
  show wpAny _ A.in1 (seqItems? (.ref B) >>= _) _ _ s
  refine wpAny_bind (wpAny_seqItems ob rfl ?_)
  show wpAny _ A.in1 (tryCatch (pyNext (.ref J)) _ >>= _) _ _ s
  by_cases h0 : n = 0
  · subst h0
    refine wpAny_bind (wpAny_tryCatch (W.done s _ _ st fun g tk kp => ?_))
    refine wpAny_bind (wpAny_rule (wpAny_pure ?_))
    exact fin dv g tk rfl fun b o h1 _ e => kp b o h1 e
  · refine wpAny_bind (wpAny_tryCatch (W.item 0 s _ _ (by omega) st fun v g tk pv st1 kp => ?_))
    have ob1 := kp B _ nW ob
    show wpAny _ A.in1 (updateSeq B (fun _ => #[v, v]) >>= _) _ _ _
    refine wpAny_bind (wpAny_updateSeq ob1 rfl ?_)
    rw [nm_eq]
    refine wpAny_pure ⟨plainId_quiet F.plain_max_loop _, loop_on W bt cmp B nB (n - 1) 0 _ v _ (by omega) (W.frame _ _ _ st1 fun b hb' o e => ?_) pv (Heap.get?_update_self _ ob1 rfl) fun v' g' tk' p' kp' => ?_⟩
    · exact (Heap.get?_update_other _ _ (fun z : B = b => nB (z ▸ hb'))).trans e
    · exact fin v' g' tk' (by rw [if_neg h0]; exact p') fun b o h1 h2 e => kp' b o h1 h2 ((Heap.get?_update_other _ _ (Ne.symm h2)).trans (kp b o h1 e))
end
section
variable {pr : Program} {w : World} {A : Around} {E : Value → Shared → Prop} {s : Shared}
theorem args_maxD (a v : Value) : argsOk "max" ⟨[a], [(Str.ofString "default", v)]⟩ := by unfold argsOk; kernel_rfl
theorem check_maxD (a v : Value) : checkBuiltinCall "max" ⟨[a], [(Str.ofString "default", v)]⟩ = pure () := by
  have h := args_maxD a v
  simp only [checkBuiltinCall, F.kind_max]
  cases e : Manifest.signature? "max" with
  | none => rfl
  | some sg =>
    simp only [argsOk, e] at h
    exact h
theorem call_maxD {l : Addr} {xs : Array (Int × Tok)} {dv : Value} {Q : Value → Shared → Prop} (hh : A.handled = none) (hl : s.heap.IsList l (intItems xs))
    (h : ∀ v g tk, (if xs.size = 0 then v = dv else (intItems xs)[argBest (fun i j => decide (numAt xs i > numAt xs j)) (xs.size - 1)]? = some v) → (∀ b o, s.heap.get? b = some o → g.get? b = some o) → Q v { s with heap := g, toks := tk }) :
    wpAny (model pr w) A (call (.builtin "max") [.ref l] [(Str.ofString "default", dv)]) Q E s := by
  refine wpAny_call (codeAny_call_builtin F.plain_max F.entry_max ?_)
  rw [check_maxD]
  refine wpAny_pure ?_
  show wpAny _ A.in1 (Builtin.Builtins.bindParams "max" ["key", "default"] 0 ⟨[], [(Str.ofString "default", dv)]⟩ >>= _) _ _ s
  refine wpAny_bind (wpAny_of_eq (show Builtin.Builtins.bindParams "max" ["key", "default"] 0 ⟨[], [(Str.ofString "default", dv)]⟩ = pure [none, some dv] from rfl) ?_)
  refine wpAny_bind (wpAny_pure ?_)
  refine wpAny_bind (iter_intList hl fun s2 e st hfp hlI => ?_)
  subst e
  refine wpAny_bind (wpAny_newObj_type ?_)
  have nB : (s.heap.push { cls := .type "list_iterator", data := .fields #[.ref l, .int 0 0] }).objs.size ∉ [s.heap.objs.size, l] := fun hm => Nat.lt_irrefl _ (hfp _ hm)
  have W := Walks.list (prog := pr) (w := w) (A := A.in1) hh s.heap.objs.size l hlI (intItems xs)
  rw [nm_eq]
  refine wpAny_pure ⟨plainId_quiet F.plain_max_loop _, loop_first W _ (CmpOf.ints_gt (numAt xs) (fun _ _ => intItems_at)) _ nB (W.frame _ _ _ st fun b _ o e => Heap.get?_push_of_some _ e) (Heap.get?_push_size _ rfl) fun v g tk hv kp => ?_⟩
  have hsz : (intItems xs).size = xs.size := by simp [intItems]
  rw [hsz] at hv
  exact h v g tk hv fun b o e => kp b o (fun hm => by
    rcases List.mem_cons.mp hm with z | z
    · exact absurd (z ▸ Heap.lt_size e) (Nat.lt_irrefl _)
    · cases z) (Nat.ne_of_lt (Heap.lt_size (Heap.get?_push_of_some _ e))) (Heap.get?_push_of_some _ (Heap.get?_push_of_some _ e))
end
/-- the greatest of these, d if there are none -/
def maxD (d : Int) : List Int → Int
  | [] => d
  | x :: r => r.foldl max x
theorem foldl_max_ge : ∀ (r : List Int) (x : Int), x ≤ r.foldl max x
  | [], x => Int.le_refl x
  | y :: r, x => Int.le_trans (Int.le_max_left x y) (foldl_max_ge r (max x y))
theorem foldl_max_all : ∀ (r : List Int) (x y : Int), y ∈ r → y ≤ r.foldl max x
  | z :: r, x, y, h => by
    rcases List.mem_cons.mp h with e | h
    · subst e
      exact Int.le_trans (Int.le_max_right x y) (foldl_max_ge r (max x y))
    · exact foldl_max_all r (max x z) y h
theorem foldl_max_mem : ∀ (r : List Int) (x : Int), r.foldl max x = x ∨ r.foldl max x ∈ r
  | [], x => .inl rfl
  | y :: r, x => by
    rcases foldl_max_mem r (max x y) with e | e
    · show List.foldl max (max x y) r = x ∨ List.foldl max (max x y) r ∈ y :: r
      rw [e]
      by_cases h : x ≤ y
      · exact .inr (List.mem_cons.mpr (.inl (Int.max_eq_right h)))
      · exact .inl (Int.max_eq_left (by omega))
    · exact .inr (List.mem_cons.mpr (.inr e))
theorem maxD_eq {d : Int} {ns : List Int} {m : Int} (h : ns ≠ []) (hm : m ∈ ns) (hg : ∀ y ∈ ns, y ≤ m) : maxD d ns = m := by
  cases ns with
  | nil => exact absurd rfl h
  | cons x r =>
    have h1 : m ≤ maxD d (x :: r) := by
      rcases List.mem_cons.mp hm with e | e
      · rw [e]
        exact foldl_max_ge r x
      · exact foldl_max_all r x m e
    have h2 : maxD d (x :: r) ≤ m := by
      rcases foldl_max_mem r x with e | e
      · show List.foldl max x r ≤ m
        rw [e]
        exact hg x List.mem_cons_self
      · exact hg _ (List.mem_cons.mpr (.inr e))
    omega
def rMaxDef (K : PySem.W.Frag) : List V → List V → Hp → VK → Prop := fun vs zs H Q => ∃ (a : Addr) (ns : List Int) (d : Int), vs = [.ref a] ∧ zs = [.int d] ∧ SqL K H a (ns.map V.int) ∧ Q (.int (maxD d ns)) H
theorem cr_maxDef {X : Cx} (hc : X.calm = true) : CallRK X (.builtin "max") [Str.ofString "default"] (rMaxDef X.K) := by
  intro pins s σ H vs zs us ws Q I r rz h
  obtain ⟨a, ns, d, rfl, rfl, hs, q⟩ := h
  obtain rfl := Vals.ref1 r
  obtain ⟨w1, rfl, t0, e1⟩ := vals1 rz
  subst e1
  obtain ⟨its, rv, hl, hz⟩ := I.list hs
  obtain ⟨xs, e⟩ := rv.ints.allInts.items
  have hn : numsOf (intItems xs).toList = ns := by
    rw [← e]
    exact rv.ints.numsOf
  rw [nums_intItems] at hn
  have hl' := hl.isList
  rw [e] at hl'
  refine call_maxD (I.ok.hd hc) hl' fun v g tk hv kp => ?_
  by_cases h0 : xs.size = 0
  · rw [if_pos h0] at hv
    have e0 : ns = [] := by
      rw [← hn]
      exact List.eq_nil_of_length_eq_zero (by rw [List.length_map, Array.length_toList]; exact h0)
    subst hv
    subst e0
    exact ⟨.int d, H, I.kept kp, ⟨t0, rfl⟩, q⟩
  · rw [if_neg h0] at hv
    obtain ⟨t, rfl⟩ := intItems_at hv
    obtain ⟨h1, h2⟩ := argBest_gt (numAt xs) (xs.size - 1)
    refine ⟨.int (maxD d ns), H, I.kept kp, ⟨t, ?_⟩, q⟩
    rw [maxD_eq (m := numAt xs (argBest (fun i j => decide (numAt xs i > numAt xs j)) (xs.size - 1)))]
    · intro z
      rw [← hn] at z
      have := congrArg List.length z
      rw [List.length_map, Array.length_toList] at this
      exact h0 this
    · rw [← hn, numAt_eq]
      exact PySem.getD_mem (by rw [List.length_map, Array.length_toList]; omega)
    · intro y hy
      rw [← hn] at hy
      obtain ⟨j, hj, rfl⟩ := mem_getD hy
      rw [List.length_map, Array.length_toList] at hj
      rw [← numAt_eq]
      exact h2 j (by omega)
end KMaxD
-- KEv
/-! more values: texts, chains, dicts, in the manner of Evl -/
namespace KEv
open PySem PySem.Spec PyProof.Rows L2 Evl
section
variable {K : PySem.W.Frag} {σ : L2.St} {H H' : Hp} {ta tb tc te : TE} {t u : TT} {x y z v : V} {r r' : R2}
/-! names for readings -/
def rIsS : R2 := fun x y H Q => ∃ (c : Nat) (z : Str), x = .str ⟨#[c]⟩ ∧ y = .str z ∧ Q (.bl (decide (c ∈ z.cps.toList))) H
def rNiS : R2 := fun x y H Q => ∃ (c : Nat) (z : Str), x = .str ⟨#[c]⟩ ∧ y = .str z ∧ Q (.bl (!decide (c ∈ z.cps.toList))) H
theorem op_isS {X : Cx} : OpR X (compareOp .In) rIsS := op_in_sign
theorem op_niS {X : Cx} : OpR X (compareOp .NotIn) rNiS := op_notIn_sign
theorem rv_isS {c : Nat} {w : Str} : RV rIsS (.str ⟨#[c]⟩) (.str w) H (.bl (decide (c ∈ w.cps.toList))) := fun H1 _ _ q => ⟨c, w, rfl, rfl, q H1 (Ex.refl H1)⟩
theorem rv_niS {c : Nat} {w : Str} : RV rNiS (.str ⟨#[c]⟩) (.str w) H (.bl (!decide (c ∈ w.cps.toList))) := fun H1 _ _ q => ⟨c, w, rfl, rfl, q H1 (Ex.refl H1)⟩
def rAddS : R2 := fun x y H Q => ∃ i j, x = .str i ∧ y = .str j ∧ i.length + j.length ≤ sizeLine ∧ Q (.str (i ++ j)) H
theorem op_addS {X : Cx} : OpR X (binaryOp .Add) rAddS := op_add_str
theorem rv_addS {a b : Str} (h : a.length + b.length ≤ 1000000) : RV rAddS (.str a) (.str b) H (.str (a ++ b)) := fun H1 _ _ q => ⟨a, b, rfl, rfl, Nat.le_trans h (by decide), q H1 (Ex.refl H1)⟩
/-- n copies -/
def repS (a : Str) (n : Nat) : Str := ⟨(List.replicate n a.cps.toList).flatten.toArray⟩
/-- len of a text -/
def rLenT : List V → Hp → VK → Prop := fun xs H Q => ∃ z : Str, xs = [.str z] ∧ z.length ≤ sizeLine ∧ Q (.int z.length) H
theorem call_lenT {X : Cx} : CallR X (.builtin "len") rLenT := call_len_str
theorem ev_lenT {a : Str} (ha : Ev ta σ H (.str a)) (h : a.length ≤ 1000000) : Ev (tCB rLenT (tCons ta tNil)) σ H (.int (a.length : Int)) := fun H1 e Q q =>
  ha H1 e _ fun H2 e2 => ⟨a, rfl, Nat.le_trans h (by decide), q H2 e2⟩
/-- a text's slice -/
theorem ev_slS {tl th : TO} {w : Str} {lo hi : Option Int} (h : Ev te σ H (.str w)) (h1 : EvO tl σ H lo) (h2 : EvO th σ H hi) (hz : w.length ≤ 1000000) : Ev (tSl rSlS te tl th) σ H (.str (cutS w lo hi)) := fun H1 e _ q =>
  h H1 e _ fun H2 e2 => h1 H2 (e.trans e2) _ fun H3 e3 => h2 H3 ((e.trans e2).trans e3) _ fun H4 e4 => ⟨w, rfl, Nat.le_trans hz (by decide), q H4 ((e2.trans e3).trans e4)⟩
/-- a op b op' c -/
theorem ev_chain {b1 b2 : Bool} (ha : Ev ta σ H x) (hb : Ev tb σ H y) (hr : RV r x y H (.bl b1)) (hc : b1 = true → Ev tc σ H z) (hr' : b1 = true → RV r' y z H (.bl b2)) : Ev (tChain r r' ta tb tc) σ H (.bl (b1 && b2)) := fun H1 e Q q =>
  ha H1 e _ fun H2 e2 => hb H2 (e.trans e2) _ fun H3 e3 => hr H3 ((e.trans e2).trans e3) _ fun H4 e4 => ⟨b1, rfl, by
    cases b1 with
    | true =>
      show tc σ H4 _
      refine hc rfl H4 (((e.trans e2).trans e3).trans e4) _ fun H5 e5 => hr' rfl H5 ((((e.trans e2).trans e3).trans e4).trans e5) Q fun H6 e6 => ?_
      exact q H6 ((((e2.trans e3).trans e4).trans e5).trans e6)
    | false =>
      show Q (.bl false) H4
      exact q H4 ((e2.trans e3).trans e4)⟩
theorem et_chain {b1 b2 : Bool} (ha : Ev ta σ H x) (hb : Ev tb σ H y) (hr : RV r x y H (.bl b1)) (hc : b1 = true → Ev tc σ H z) (hr' : b1 = true → RV r' y z H (.bl b2)) : EvT (tTest (tChain r r' ta tb tc)) σ H (b1 && b2) :=
  et_test (ev_chain ha hb hr hc hr')
/-- int(i), int(b) -/
def rInt1 : List V → Hp → VK → Prop := fun xs H Q => (∃ i, xs = [.int i] ∧ Q (.int i) H) ∨ ∃ k, xs = [.bl k] ∧ Q (.int (if k then 1 else 0)) H
theorem call_intI {X : Cx} : CallR X (.type "int") rInt1 := call_int1
theorem rc_intI {i : Int} : RC rInt1 [.int i] H (.int i) := fun H1 _ _ q => .inl ⟨i, rfl, q H1 (Ex.refl H1)⟩
theorem rc_intB {k : Bool} : RC rInt1 [.bl k] H (.int (if k then 1 else 0)) := fun H1 _ _ q => .inr ⟨k, rfl, q H1 (Ex.refl H1)⟩
def rIntT : List V → Hp → VK → Prop := fun xs H Q => ∃ a n, xs = [.str a] ∧ PySem.intText? a = some n ∧ a.length ≤ 640 ∧ Q (.int n) H
theorem call_intT {X : Cx} : CallR X (.type "int") rIntT := call_int_str
theorem rc_intT {a : Str} {n : Int} (h : PySem.intText? a = some n) (hl : a.length ≤ 640) : RC rIntT [.str a] H (.int n) := fun H1 _ _ q => ⟨a, n, rfl, h, hl, q H1 (Ex.refl H1)⟩
def rAbs1 : List V → Hp → VK → Prop := fun xs H Q => ∃ i, xs = [.int i] ∧ Q (.int (if i < 0 then -i else i)) H
theorem call_absI {X : Cx} : CallR X (.builtin "abs") rAbs1 := call_abs
theorem rc_abs {i : Int} : RC rAbs1 [.int i] H (.int (if i < 0 then -i else i)) := fun H1 _ _ q => ⟨i, rfl, q H1 (Ex.refl H1)⟩
def rStrI : List V → Hp → VK → Prop := fun xs H Q => ∃ i : Int, xs = [.int i] ∧ i.natAbs.log2 < 1920 ∧ Q (.str (toString i)) H
theorem call_strI {X : Cx} : CallR X (.type "str") rStrI := call_str_int
theorem rc_strI {i : Int} (h : i.natAbs < 2 ^ 64) : RC rStrI [.int i] H (.str (toString i)) := fun H1 _ _ q => ⟨i, rfl, by
  by_cases h0 : i.natAbs = 0
  · rw [h0]
    decide
  · have := (Nat.log2_lt h0).mpr h
    omega, q H1 (Ex.refl H1)⟩
theorem rc_sum {a : Addr} {ns : List Int} (h : SqL K H a (ns.map V.int)) : RC (rSum K) [.ref a] H (.int ns.sum) := fun H1 e _ q => ⟨a, ns, rfl, ex_l e h, q H1 (Ex.refl H1)⟩
/-! statements over a text's signs -/
variable {D : Ends} {tu tz : TS}
theorem for_str {x : Str} {g : TG} {tb : TS} {σ : L2.St} {H : Hp} {D : Ends} (Pv : Nat → L2.St → Hp → Prop) (h0 : Pv 0 σ H) (hs : ∀ i c σ' H', x.cps[i]? = some c → Pv i σ' H' → g (.str ⟨#[c]⟩) σ' H' fun σ2 H2 => tb { D with nx := Pv (i + 1), ct := Pv (i + 1), bk := D.nx } σ2 H2)
    (hd : ∀ σ' H', Pv x.cps.size σ' H' → D.nx σ' H') : ∃ W : Nat → Nat → L2.St → Hp → Prop, (∃ m, W 0 m σ H) ∧ ∀ i m σ H, W i m σ H →
      ((Its x).stop i H ∧ D.nx σ H) ∨ ((Its x).go i H ∧ ∃ N : L2.St → Hp → Prop, (∀ σ' H', N σ' H' → ∃ m', m' < m ∧ W (i + 1) m' σ' H') ∧ ∀ y H', (Its x).yld i H y H' → g y σ H' fun σ2 H2 => tb { D with nx := N, ct := N, bk := D.nx } σ2 H2) := by
  refine ⟨fun i m σ' H' => i + m = x.cps.size ∧ Pv i σ' H', ⟨x.cps.size, Nat.zero_add _, h0⟩, fun i m σ' H' ⟨em, p⟩ => ?_⟩
  by_cases hi : i < x.cps.size
  · refine .inr ⟨hi, Pv (i + 1), fun σ2 H2 p2 => ⟨m - 1, by omega, by omega, p2⟩, fun y H2 hy => ?_⟩
    obtain ⟨rfl, c, hc, rfl⟩ := hy
    exact hs i c σ' _ hc p
  · have e : i = x.cps.size := by omega
    subst e
    exact .inl ⟨Nat.le_refl _, hd σ' H' p⟩
theorem q_forS {x : Str} {g : TG} {tl : TE} (h : Ev tl σ H (.str x)) (Pv : Nat → L2.St → Hp → Prop) (h0 : ∀ H1, Ex H H1 → Pv 0 σ H1) (hs : ∀ i c σ' H', x.cps[i]? = some c → Pv i σ' H' → g (.str ⟨#[c]⟩) σ' H' fun σ2 H2 => tu { D with nx := Pv (i + 1), ct := Pv (i + 1), bk := tz D } σ2 H2)
    (hd : ∀ σ' H', Pv x.cps.size σ' H' → tz D σ' H') : tSeq (tFor (iStr tl) g tu) tz D σ H := h H (Ex.refl H) _ fun H1 e => ⟨x, rfl, for_str (D := { D with nx := tz D }) Pv (h0 H1 e) hs hd⟩
end
end KEv
-- KDraw
/-! what is drawn: a list of whole numbers that every taking changes; all else that is known stays -/
namespace KD
open PySem PySem.Spec PyProof.Rows L2 Evl KEv
def GoodL (xs : List Int) : Prop := xs ≠ [] ∧ xs.length ≤ 10000 ∧ ∀ x ∈ xs, 0 ≤ x ∧ x < 2147483647
def Dr (H : Hp) (d : Addr) : Prop := ∃ xs, GoodL xs ∧ H d = some (.lst (xs.map V.int))
/-- B is known of H, the draws stand at d (and are not part of B) -/
structure Sd (B : Hp) (d : Addr) (H : Hp) : Prop where
  ex : Ex B H
  no : B d = none
  dr : Dr H d
def hide (H : Hp) (d : Addr) : Hp := fun b => if b = d then none else H b
theorem hide_at {H : Hp} {d : Addr} : hide H d d = none := by
  unfold hide
  rw [if_pos rfl]
theorem hide_ne {H : Hp} {d b : Addr} (h : b ≠ d) : hide H d b = H b := by
  unfold hide
  rw [if_neg h]
theorem hide_ex {H : Hp} {d : Addr} : Ex (hide H d) H := fun b o e => by
  by_cases h : b = d
  · rw [h, hide_at] at e
    cases e
  · rwa [hide_ne h] at e
theorem Sd.of {H : Hp} {d : Addr} (h : Dr H d) : Sd (hide H d) d H := ⟨hide_ex, hide_at, h⟩
theorem Dr.mono {H H' : Hp} {d : Addr} (e : Ex H H') (h : Dr H d) : Dr H' d := by
  obtain ⟨xs, g, h⟩ := h
  exact ⟨xs, g, e _ _ h⟩
theorem Sd.mono {B H H' : Hp} {d : Addr} (s : Sd B d H) (e : Ex H H') : Sd B d H' := ⟨s.ex.trans e, s.no, s.dr.mono e⟩
theorem Sd.ne {B H : Hp} {d p : Addr} (s : Sd B d H) (h : H p = none) : p ≠ d := fun z => by
  obtain ⟨xs, _, e⟩ := s.dr
  rw [z, e] at h
  cases h
/-- B lies below what H hides nothing but the draws of -/
theorem Sd.below {B H : Hp} {d : Addr} (s : Sd B d H) : Ex B (hide H d) := fun b o e => by
  have h : b ≠ d := fun z => by
    rw [z, s.no] at e
    cases e
  rw [hide_ne h]
  exact s.ex b o e
/-- one more object is known -/
theorem Sd.known {B H : Hp} {d p : Addr} {o : HO} (s : Sd B d H) (h : p ≠ d) (e : H p = some o) : Sd (upd B p o) d H := ⟨fun b u q => by
    by_cases hb : b = p
    · rw [hb, upd_same] at q
      rw [hb, e, ← q]
    · rw [upd_ne hb] at q
      exact s.ex b u q, by rw [upd_ne (Ne.symm h)]; exact s.no, s.dr⟩
/-- the draws are changed -/
theorem Sd.drawn {B H : Hp} {d : Addr} {xs : List Int} (s : Sd B d H) (g : GoodL xs) : Sd B d (upd H d (.lst (xs.map V.int))) := ⟨s.ex.mut s.no, s.no, xs, g, upd_same⟩
/-- an object that is known is changed -/
theorem Sd.change {B H : Hp} {d p : Addr} {o u : HO} (s : Sd B d H) (h : B p = some u) : Sd (upd B p o) d (upd H p o) := by
  have hd : p ≠ d := fun z => by
    rw [z, s.no] at h
    cases h
  refine ⟨fun b v q => ?_, by rw [upd_ne (Ne.symm hd)]; exact s.no, ?_⟩
  · by_cases hb : b = p
    · rw [hb, upd_same] at q
      rw [hb, upd_same, q]
    · rw [upd_ne hb] at q ⊢
      exact s.ex b v q
  · obtain ⟨xs, g, e⟩ := s.dr
    exact ⟨xs, g, by rw [upd_ne (Ne.symm hd)]; exact e⟩
/-- a promise of a def that draws: A of the other arguments, R of its value -/
def spGen (A : List V → Hp → Prop) (R : List V → V → Hp → Prop) : Sp := fun vs H Q _ => ∃ (d : Addr) (rest : List V), vs = .ref d :: rest ∧ Dr H d ∧ A rest (hide H d) ∧ ∀ v B' H', Ex (hide H d) B' → Sd B' d H' → R rest v B' → Q v H'
def EvG (te : TE) (σ : L2.St) (B : Hp) (d : Addr) (R : V → Hp → Prop) : Prop := ∀ H, Sd B d H → ∀ Q : VK, (∀ v B' H', Ex B B' → Sd B' d H' → R v B' → Q v H') → te σ H Q
def EvGT (tt : TT) (σ : L2.St) (B : Hp) (d : Addr) (R : Bool → Hp → Prop) : Prop := ∀ H, Sd B d H → ∀ Q : Bool → Hp → Prop, (∀ b B' H', Ex B B' → Sd B' d H' → R b B' → Q b H') → tt σ H Q
def EvGA (ta : TA) (σ : L2.St) (B : Hp) (d : Addr) (R : List V → Hp → Prop) : Prop := ∀ H, Sd B d H → ∀ Q : List V → Hp → Prop, (∀ vs B' H', Ex B B' → Sd B' d H' → R vs B' → Q vs H') → ta σ H Q
section
variable {K : PySem.W.Frag} {σ : L2.St} {B H : Hp} {d : Addr} {ta tb te : TE} {tt tu : TT} {v x y z : V} {xs : List V} {R Ra R' : V → Hp → Prop} {r : R2}
theorem eg_lift (h : Ev te σ B v) : EvG te σ B d fun u B' => u = v ∧ B' = B := fun H s Q q => h H s.ex Q fun H2 e2 => q v B H2 (Ex.refl B) (s.mono e2) ⟨rfl, rfl⟩
theorem eg_liftL (h : EvL te σ B xs) : EvG te σ B d fun u B' => ∃ p, u = .ref p ∧ B p = none ∧ p ≠ d ∧ B' = upd B p (.lst xs) := fun H s Q q => h H s.ex Q fun p H2 hp e2 h2 => by
  have nb : B p = none := fresh_back s.ex hp
  exact q (.ref p) (upd B p (.lst xs)) H2 (Ex.new nb) ((s.mono e2).known (s.ne hp) h2) ⟨p, rfl, nb, s.ne hp, rfl⟩
theorem eg_liftU (h : EvU te σ B xs) : EvG te σ B d fun u B' => ∃ p, u = .ref p ∧ B p = none ∧ p ≠ d ∧ B' = upd B p (.tup xs) := fun H s Q q => h H s.ex Q fun p H2 hp e2 h2 => by
  have nb : B p = none := fresh_back s.ex hp
  exact q (.ref p) (upd B p (.tup xs)) H2 (Ex.new nb) ((s.mono e2).known (s.ne hp) h2) ⟨p, rfl, nb, s.ne hp, rfl⟩
theorem EvG.imp (h : EvG te σ B d R) (hi : ∀ v B', Ex B B' → R v B' → R' v B') : EvG te σ B d R' := fun H s Q q => h H s Q fun v B' H' e s' r => q v B' H' e s' (hi v B' e r)
theorem eg_op {Rb : V → V → Hp → Prop} (ha : EvG ta σ B d Ra) (hb : ∀ x B1, Ex B B1 → Ra x B1 → EvG tb σ B1 d (Rb x)) (hr : ∀ x y B1 B2, Ex B B1 → Ra x B1 → Ex B1 B2 → Rb x y B2 → ∃ z, RV r x y B2 z ∧ R z B2) : EvG (tOp r ta tb) σ B d R := fun H s Q q =>
  ha H s _ fun x B1 H1 e1 s1 r1 => hb x B1 e1 r1 H1 s1 _ fun y B2 H2 e2 s2 r2 => by
    obtain ⟨z, hz, rz⟩ := hr x y B1 B2 e1 r1 e2 r2
    exact hz H2 s2.ex Q fun H3 e3 => q z B2 H3 (e1.trans e2) (s2.mono e3) rz
theorem ega_nil : EvGA tNil σ B d fun vs B' => vs = [] ∧ B' = B := fun H s Q q => q [] B H (Ex.refl B) s ⟨rfl, rfl⟩
theorem ega_cons {tr : TA} {Rr : V → List V → Hp → Prop} {Rw : List V → Hp → Prop} (h : EvG te σ B d R) (hr : ∀ v B1, Ex B B1 → R v B1 → EvGA tr σ B1 d (Rr v)) (hw : ∀ v vs B1 B2, Ex B B1 → R v B1 → Ex B1 B2 → Rr v vs B2 → Rw (v :: vs) B2) : EvGA (tCons te tr) σ B d Rw := fun H s Q q =>
  h H s _ fun v B1 H1 e1 s1 r1 => hr v B1 e1 r1 H1 s1 _ fun vs B2 H2 e2 s2 r2 => q (v :: vs) B2 H2 (e1.trans e2) s2 (hw v vs B1 B2 e1 r1 e2 r2)
theorem ega_lift {ta : TA} {vs : List V} (h : EvA ta σ B vs) : EvGA ta σ B d fun us B' => us = vs ∧ B' = B := fun H s Q q => h H s.ex Q fun H2 e2 => q vs B H2 (Ex.refl B) (s.mono e2) ⟨rfl, rfl⟩
/-- a call of a def that draws: its first argument the draws -/
theorem eg_call {ta : TA} {A : List V → Hp → Prop} {Rc : List V → V → Hp → Prop} {Rs : List V → Hp → Prop} {E : XK} (h : EvGA ta σ B d Rs) (ha : ∀ us B1 H1, Ex B B1 → Rs us B1 → Ex B1 H1 → ∃ rest, us = .ref d :: rest ∧ A rest H1) (hr : ∀ rest B1 B2 v, Ex B B1 → Rs (.ref d :: rest) B1 → Ex B1 B2 → Rc rest v B2 → R v B2) :
    EvG (tCall (spGen A Rc) [] E ta) σ B d R := fun H s Q q => h H s _ fun us B1 H1 e1 s1 r1 => by
  obtain ⟨rest, eu, hA⟩ := ha us B1 (hide H1 d) e1 r1 s1.below
  subst eu
  refine ⟨d, rest, List.append_nil _, s1.dr, hA, fun v B2 H2 e2 s2 r2 => ?_⟩
  exact q v B2 H2 ((e1.trans s1.below).trans e2) s2 (hr rest B1 B2 v e1 r1 (s1.below.trans e2) r2)
/-! tests -/
theorem egt_test {Rt : Bool → Hp → Prop} (h : EvG te σ B d R) (hb : ∀ v B', Ex B B' → R v B' → ∃ b, v = .bl b ∧ Rt b B') : EvGT (tTest te) σ B d Rt := fun H s Q q => h H s _ fun v B' H' e s' r => by
  obtain ⟨b, eb, rb⟩ := hb v B' e r
  exact ⟨b, eb, q b B' H' e s' rb⟩
theorem egt_lift {b : Bool} (h : EvT tt σ B b) : EvGT tt σ B d fun c B' => c = b ∧ B' = B := fun H s Q q => h H s.ex Q fun H2 e2 => q b B H2 (Ex.refl B) (s.mono e2) ⟨rfl, rfl⟩
theorem egt_and {Rt Ru Rw : Bool → Hp → Prop} (h1 : EvGT tt σ B d Rt) (h2 : ∀ B1, Ex B B1 → Rt true B1 → EvGT tu σ B1 d Ru) (hf : ∀ B1, Ex B B1 → Rt false B1 → Rw false B1) (hw : ∀ b B1 B2, Ex B B1 → Rt true B1 → Ex B1 B2 → Ru b B2 → Rw b B2) : EvGT (tAnd tt tu) σ B d Rw := fun H s Q q =>
  h1 H s _ fun b B1 H1 e1 s1 r1 => by
    cases b with
    | true =>
      show tu σ H1 Q
      exact h2 B1 e1 r1 H1 s1 Q fun c B2 H2 e2 s2 r2 => q c B2 H2 (e1.trans e2) s2 (hw c B1 B2 e1 r1 e2 r2)
    | false =>
      show Q false H1
      exact q false B1 H1 e1 s1 (hf B1 e1 r1)
/-! statements -/
variable {D : Ends} {ts tw tz : TS}
theorem g_asg {i : Nat} (h : EvG te σ B d R) (s : Sd B d H) (k : ∀ v B' H', Ex B B' → Sd B' d H' → R v B' → D.nx (σ.set i (some v)) H') : tAsg te (gName i) D σ H := h H s _ fun v B' H' e s' r => k v B' H' e s' r
theorem gq_asg {i : Nat} (h : EvG te σ B d R) (s : Sd B d H) (k : ∀ v B' H', Ex B B' → Sd B' d H' → R v B' → tz D (σ.set i (some v)) H') : tSeq (tAsg te (gName i)) tz D σ H := h H s _ fun v B' H' e s' r => k v B' H' e s' r
theorem g_ret (h : EvG te σ B d R) (s : Sd B d H) (k : ∀ v B' H', Ex B B' → Sd B' d H' → R v B' → D.rt v H') : tRet te D σ H := h H s _ fun v B' H' e s' r => k v B' H' e s' r
theorem g_if {Rt : Bool → Hp → Prop} (h : EvGT tt σ B d Rt) (s : Sd B d H) (h1 : ∀ B' H', Ex B B' → Sd B' d H' → Rt true B' → ts D σ H') (h2 : ∀ B' H', Ex B B' → Sd B' d H' → Rt false B' → tw D σ H') : tIfS tt ts tw D σ H := h H s _ fun b B' H' e s' r => by
  cases b with
  | true =>
    show ts D σ H'
    exact h1 B' H' e s' r
  | false =>
    show tw D σ H'
    exact h2 B' H' e s' r
/-- an if, then the rest: what stands between is told once -/
theorem gq_if {Rt : Bool → Hp → Prop} (h : EvGT tt σ B d Rt) (s : Sd B d H) (h1 : ∀ B' H', Ex B B' → Sd B' d H' → Rt true B' → ts { D with nx := tz D } σ H') (h2 : ∀ B' H', Ex B B' → Sd B' d H' → Rt false B' → tw { D with nx := tz D } σ H') : tSeq (tIfS tt ts tw) tz D σ H :=
  g_if (D := { D with nx := tz D }) h s h1 h2
/-- for k in range(n): the turns draw -/
theorem g_range {j : Nat} {n : Nat} {ta : TA} {tb : TS} (h : EvA ta σ B [.int (n : Int)]) (s : Sd B d H) (hn : n ≤ 100000) (Pv : Nat → L2.St → Hp → Prop) (h0 : ∀ H', Sd B d H' → Pv 0 σ H')
    (hs : ∀ (i : Nat) σ' H', i < n → Pv i σ' H' → tb { D with nx := Pv (i + 1), ct := Pv (i + 1), bk := tz D } (σ'.set j (some (.int (i : Int)))) H') (hd : ∀ σ' H', Pv n σ' H' → tz D σ' H') : tSeq (tFor (iRng1 ta) (gName j) tb) tz D σ H :=
  q_forR1 (H := H) (fun H1 e Q q => h H1 (s.ex.trans e) Q q) ⟨by omega, by omega⟩ Pv (fun H1 e => h0 H1 (s.mono e)) (fun i σ' H' hi p => hs i σ' H' (by omega) p) (fun σ' H' p => hd σ' H' (by simpa using p))
end
/-! the taking itself -/
def takeA : List V → Hp → Prop := fun rest _ => ∃ m : Int, rest = [.int m] ∧ 0 < m
def takeR : List V → V → Hp → Prop := fun rest v _ => ∃ m r : Int, rest = [.int m] ∧ v = .int r ∧ 0 ≤ r ∧ r < m
abbrev spTake : Sp := spGen takeA takeR
section
variable {K : PySem.W.Frag} {σ : L2.St} {B H : Hp} {d : Addr} {ta tb te td : TE} {E : XK}
theorem eg_take {m : Int} (hd : Ev td σ B (.ref d)) (hm : Ev te σ B (.int m)) (h0 : 0 < m) : EvG (tCall spTake [] E (tCons td (tCons te tNil))) σ B d fun v B' => (∃ r, v = .int r ∧ 0 ≤ r ∧ r < m) ∧ Ex B B' :=
  eg_call (ega_lift (ea_cons hd (ea_cons hm ea_nil))) (fun us B1 H1 _ e _ => ⟨[.int m], e.1, m, rfl, h0⟩) fun rest B1 B2 v e1 h e2 hr => by
    obtain ⟨m', r, er, ev, r0, r1⟩ := hr
    have e3 := h.1
    rw [er] at e3
    have e4 : m' = m := by
      have := List.cons.inj (List.cons.inj e3).2
      exact V.int.inj this.1
    rw [e4] at r1
    exact ⟨⟨r, ev, r0, r1⟩, e1.trans e2⟩
/-- a written text at a drawn place -/
theorem eg_sign {w : Str} {ti : TE} {n : Int} (hw : Ev te σ B (.str w)) (hi : EvG ti σ B d fun v B' => (∃ r, v = .int r ∧ 0 ≤ r ∧ r < n) ∧ Ex B B') (hn : n ≤ (w.length : Int)) (hl : w.length ≤ 100000) : EvG (tOp rIxS te ti) σ B d fun v B' => (∃ c, v = .str ⟨#[c]⟩ ∧ c ∈ TL.tl w) ∧ Ex B B' :=
  eg_op (eg_lift hw) (fun x B1 _ e => by rw [e.2]; exact hi) fun x y B1 B2 _ hx e2 hy => by
    obtain ⟨⟨r, ey, r0, r1⟩, e3⟩ := hy
    have hr : r.toNat < w.cps.toList.length := by
      have : w.length = w.cps.toList.length := by simp [Str.length]
      omega
    obtain ⟨c, hc⟩ : ∃ c, w.cps.toList[r.toNat]? = some c := ⟨_, List.getElem?_eq_getElem hr⟩
    rw [hx.1, ey]
    exact ⟨_, rv_ixS hl (by rw [show r = ((r.toNat : Nat) : Int) by omega]; exact atI_nat hc), ⟨c, rfl, List.mem_of_getElem? hc⟩, e3⟩
end
end KD
-- KSq
/-! a list or a tuple, walked; dict comprehensions in the manner of Evl -/
namespace KSq
open PySem PySem.Spec PyProof.Rows L2 Evl KEv
def Sq (K : PySem.W.Frag) (H : Hp) (a : Addr) (xs : List V) : Prop := SqL K H a xs ∨ SqT K H a xs
theorem ex_sq {K : PySem.W.Frag} {H H' : Hp} {a : Addr} {xs : List V} (e : Ex H H') (h : Sq K H a xs) : Sq K H' a xs := h.elim (fun h => .inl (ex_l e h)) fun h => .inr (ex_t e h)
/-- over a list or a tuple -/
def iSeq (K : PySem.W.Frag) (tl : TE) : TI := fun σ H R => iList K tl σ H R ∨ iTup K tl σ H R
theorem pi_seq {X : Cx} {tg l : Expr} {tl : TE} (hl : PE X l tl) : PI X tg l (iSeq X.K tl) := ⟨fun pins s σ H R I h => h.elim ((pi_list hl).run pins s σ H R I) ((pi_tup hl).run pins s σ H R I)⟩
/-- any of the two walks, told by xs -/
def WalkS (K : PySem.W.Frag) (J : It) (a : Addr) (xs : List V) : Prop := Walk J xs.length (fun H => Sq K H a xs) (YAt xs)
/-- what is said of a walk over a list or a tuple that stands -/
theorem iseq_go {K : PySem.W.Frag} {tl : TE} {σ : L2.St} {H : Hp} {a : Addr} {xs : List V} {R : It → Hp → Prop} (h : Ev tl σ H (.ref a)) (hx : Sq K H a xs)
    (k : ∀ (J : It) (G : Hp → Prop) H1, Ex H H1 → G H1 → (∀ H2, Ex H H2 → G H2) → Walk J xs.length G (YAt xs) → R J H1) : iSeq K tl σ H R := by
  rcases hx with hx | hx
  · exact .inl (h H (Ex.refl H) _ fun H1 e => ⟨a, rfl, ⟨xs, ex_l e hx⟩, k _ (fun H => SqL K H a xs) H1 e (ex_l e hx) (fun H2 e2 => ex_l e2 hx) walk_list⟩)
  · exact .inr (h H (Ex.refl H) _ fun H1 e => ⟨a, rfl, ⟨xs, ex_t e hx⟩, k _ (fun H => SqT K H a xs) H1 e (ex_t e hx) (fun H2 e2 => ex_t e2 hx) walk_tup⟩)
section
variable {K : PySem.W.Frag} {σ : L2.St} {H : Hp} {a : Addr} {xs : List V} {tl te tk tv : TE} {t : TT} {D : Ends} {tu tz : TS} {j : Nat} {vs : List Nat}
/-- a for over it, its target a name; what stood stays -/
theorem s_forSq (h : Ev tl σ H (.ref a)) (hx : Sq K H a xs) (Pv : Nat → L2.St → Hp → Prop) (h0 : ∀ H1, Ex H H1 → Pv 0 σ H1) (hp : ∀ i σ' H', Pv i σ' H' → Ex H H')
    (hs : ∀ i x σ' H', xs[i]? = some x → Pv i σ' H' → tu { D with nx := Pv (i + 1), ct := Pv (i + 1), bk := D.nx } (σ'.set j (some x)) H') (hd : ∀ σ' H', Pv xs.length σ' H' → D.nx σ' H') : tFor (iSeq K tl) (gName j) tu D σ H :=
  iseq_go h hx fun J G H1 e1 g1 hg w => for_it w Pv (h0 H1 e1) (fun i σ' H' _ p => hg H' (hp i σ' H' p)) (fun i x σ' H2 H3 _ p y => by
    obtain ⟨rfl, hx⟩ := y
    exact hs i x σ' _ hx p) hd
theorem q_forSq (h : Ev tl σ H (.ref a)) (hx : Sq K H a xs) (Pv : Nat → L2.St → Hp → Prop) (h0 : ∀ H1, Ex H H1 → Pv 0 σ H1) (hp : ∀ i σ' H', Pv i σ' H' → Ex H H')
    (hs : ∀ i x σ' H', xs[i]? = some x → Pv i σ' H' → tu { D with nx := Pv (i + 1), ct := Pv (i + 1), bk := tz D } (σ'.set j (some x)) H') (hd : ∀ σ' H', Pv xs.length σ' H' → tz D σ' H') : tSeq (tFor (iSeq K tl) (gName j) tu) tz D σ H :=
  s_forSq (D := { D with nx := tz D }) h hx Pv h0 hp hs hd
/-- a list comprehension over it -/
theorem el_lcSq (f : Nat → Bool) (v : Nat → V) (h : Ev tl σ H (.ref a)) (hx : Sq K H a xs) (hz : xs.length ≤ 40000) (hw : ∀ x, wipe ((wipe σ vs).set j (some x)) vs = wipe σ vs)
    (ht : ∀ (i : Nat) (x : V) H1, Ex H H1 → xs[i]? = some x → EvT t ((wipe σ vs).set j (some x)) H1 (f i)) (he : ∀ (i : Nat) (x : V) H1, Ex H H1 → xs[i]? = some x → f i = true → Ev te ((wipe σ vs).set j (some x)) H1 (v i)) :
    EvL (tLc (iSeq K tl) (gName j) t te vs) σ H (given xs.length f v) := fun H0 e Q q =>
  iseq_go (h.mono e) (ex_sq e hx) fun J G H1 e1 g1 hg w Dl hD =>
    lc_it w (Cw H1 f v Dl) ⟨hD, Ex.new hD, upd_same⟩ (fun i H' _ p => hg H' (e1.trans p.2.1)) (fun i x H2 H3 hi p y => by
      obtain ⟨rfl, hx⟩ := y
      exact ⟨hw x, cw_turn p (by omega) (ht i x H1 (e.trans e1) hx) (fun hf => he i x H1 (e.trans e1) hx hf)⟩)
    (fun H' p => q Dl H' (fresh_back e1 p.1) (e1.trans p.2.1) p.2.2)
/-- all turns give -/
theorem given_all {n : Nat} {f : Nat → Bool} {v : Nat → V} (h : ∀ i, i < n → f i = true) : given n f v = (List.range n).map v := by
  unfold given
  rw [List.filter_eq_self.mpr fun i hi => h i (List.mem_range.mp hi)]
/-! dict comprehensions -/
/-- a new dict -/
def EvD (te : TE) (σ : L2.St) (H : Hp) (kvs : List (Key × V)) : Prop := ∀ H1, Ex H H1 → ∀ Q : VK, (∀ p H2, H1 p = none → Ex H1 H2 → H2 p = some (.dK kvs) → Q (.ref p) H2) → te σ H1 Q
theorem EvD.mono {H' : Hp} {kvs : List (Key × V)} (e : Ex H H') (h : EvD te σ H kvs) : EvD te σ H' kvs := fun H1 a Q q => h H1 (e.trans a) Q q
/-- a dict comprehension over a walk: Pv by the turn and the heap -/
theorem dc_it {J : It} {n : Nat} {G : Hp → Prop} {Y : Nat → Hp → V → Hp → Prop} (w : Walk J n G Y) {g : TG} {tt : TT} {tk tv : TE} {vs : List Nat} {σ : L2.St} {H1 : Hp} {D : Addr} {Qd : Hp → Prop} (Pv : Nat → Hp → Prop) (h0 : Pv 0 (upd H1 D (.dK []))) (hG : ∀ i H, i ≤ n → Pv i H → G H)
    (hs : ∀ i x H H', i < n → Pv i H → Y i H x H' → g x (wipe σ vs) H' fun σ2 H2 => wipe σ2 vs = wipe σ vs ∧ tt σ2 H2 fun b H3 =>
      if b = true then tk σ2 H3 fun y H4 => tv σ2 H4 fun z H5 => ∃ kvs k, y = kV k ∧ H5 D = some (.dK kvs) ∧ kvs.length < sizeLine ∧ Pv (i + 1) (upd H5 D (.dK (putK kvs k z))) else Pv (i + 1) H3) (hd : ∀ H, Pv n H → Qd H) :
    ∃ W : Nat → Nat → Hp → Prop, (∃ m, W 0 m (upd H1 D (.dK []))) ∧ ∀ i m H, W i m H →
      (J.stop i H ∧ Qd H) ∨ (J.go i H ∧ ∃ Nx : Hp → Prop, (∀ H', Nx H' → ∃ m', m' < m ∧ W (i + 1) m' H') ∧ ∀ x H', J.yld i H x H' → g x (wipe σ vs) H' fun σ2 H2 => wipe σ2 vs = wipe σ vs ∧ tt σ2 H2 fun b H3 =>
        if b = true then tk σ2 H3 fun y H4 => tv σ2 H4 fun z H5 => ∃ kvs k, y = kV k ∧ H5 D = some (.dK kvs) ∧ kvs.length < sizeLine ∧ Nx (upd H5 D (.dK (putK kvs k z))) else Nx H3) := by
  refine ⟨fun i m H => m = n - i ∧ i ≤ n ∧ Pv i H, ⟨n, by simp, Nat.zero_le _, h0⟩, ?_⟩
  rintro i m H ⟨rfl, hi, p⟩
  have q := hG i H hi p
  by_cases hlt : i < n
  · exact .inr ⟨w.goes i H hlt q, Pv (i + 1), fun H' p' => ⟨n - (i + 1), by omega, rfl, hlt, p'⟩, fun x H' y => hs i x H H' hlt p (w.yields i H x H' hlt q y)⟩
  · have e : i = n := by omega
    subst e
    exact .inl ⟨w.stops H q, hd H p⟩
/-- the dict of the first n turns -/
def madeK (n : Nat) (k : Nat → Key) (v : Nat → V) : List (Key × V) := (List.range n).foldl (fun acc i => putK acc (k i) (v i)) []
theorem madeK_succ {n : Nat} {k : Nat → Key} {v : Nat → V} : madeK (n + 1) k v = putK (madeK n k v) (k n) (v n) := by
  unfold madeK
  rw [List.range_succ, List.foldl_append]
  rfl
theorem madeK_len {n : Nat} {k : Nat → Key} {v : Nat → V} : (madeK n k v).length ≤ n := by
  induction n with
  | zero => exact Nat.le_refl _
  | succ n ih =>
    rw [madeK_succ]
    have := length_putK (madeK n k v) (k n) (v n)
    omega
def Dw (H : Hp) (k : Nat → Key) (v : Nat → V) (Dl : Addr) (i : Nat) (H' : Hp) : Prop := H Dl = none ∧ Ex H H' ∧ H' Dl = some (.dK (madeK i k v))
theorem dw_turn {H' : Hp} {k : Nat → Key} {v : Nat → V} {Dl : Addr} {i : Nat} {σ2 : L2.St} {tt : TT} (p : Dw H k v Dl i H') (hi : i < 50000) (ht : EvT tt σ2 H true) (hk : Ev tk σ2 H (kV (k i))) (he : Ev tv σ2 H (v i)) :
    tt σ2 H' fun b H3 => if b = true then tk σ2 H3 fun y H4 => tv σ2 H4 fun z H5 => ∃ kvs k0, y = kV k0 ∧ H5 Dl = some (.dK kvs) ∧ kvs.length < sizeLine ∧ Dw H k v Dl (i + 1) (upd H5 Dl (.dK (putK kvs k0 z))) else Dw H k v Dl (i + 1) H3 := by
  obtain ⟨p1, p2, p3⟩ := p
  refine ht H' p2 _ fun H3 e3 => ?_
  rw [if_pos rfl]
  refine hk H3 (p2.trans e3) _ fun H4 e4 => he H4 ((p2.trans e3).trans e4) _ fun H5 e5 => ⟨madeK i k v, k i, rfl, e5 Dl _ (e4 Dl _ (e3 Dl _ p3)), sz_lt (by have := madeK_len (n := i) (k := k) (v := v); omega), p1, Ex.mut (((p2.trans e3).trans e4).trans e5) p1, ?_⟩
  rw [madeK_succ]
  exact upd_same
theorem ed_dcSq {tt : TT} (k : Nat → Key) (v : Nat → V) (h : Ev tl σ H (.ref a)) (hx : Sq K H a xs) (hz : xs.length ≤ 40000) (hw : ∀ x, wipe ((wipe σ vs).set j (some x)) vs = wipe σ vs)
    (ht : ∀ (i : Nat) (x : V) H1, Ex H H1 → xs[i]? = some x → EvT tt ((wipe σ vs).set j (some x)) H1 true) (hk : ∀ (i : Nat) (x : V) H1, Ex H H1 → xs[i]? = some x → Ev tk ((wipe σ vs).set j (some x)) H1 (kV (k i)))
    (he : ∀ (i : Nat) (x : V) H1, Ex H H1 → xs[i]? = some x → Ev tv ((wipe σ vs).set j (some x)) H1 (v i)) : EvD (tDc (iSeq K tl) (gName j) tt tk tv vs) σ H (madeK xs.length k v) := fun H0 e Q q =>
  iseq_go (h.mono e) (ex_sq e hx) fun J G H1 e1 g1 hg w Dl hD =>
    dc_it w (Dw H1 k v Dl) ⟨hD, Ex.new hD, upd_same⟩ (fun i H' _ p => hg H' (e1.trans p.2.1)) (fun i x H2 H3 hi p y => by
      obtain ⟨rfl, hx⟩ := y
      exact ⟨hw x, dw_turn p (by omega) (ht i x H1 (e.trans e1) hx) (hk i x H1 (e.trans e1) hx) (he i x H1 (e.trans e1) hx)⟩)
    (fun H' p => q Dl H' (fresh_back e1 p.1) (e1.trans p.2.1) p.2.2)
theorem s_asgD {i : Nat} {kvs : List (Key × V)} (h : EvD te σ H kvs) (k : ∀ p H1, H p = none → Ex H H1 → H1 p = some (.dK kvs) → D.nx (σ.set i (some (.ref p))) H1) : tAsg te (gName i) D σ H := h H (Ex.refl H) _ fun p H1 hp e h1 => k p H1 hp e h1
theorem q_asgD {i : Nat} {kvs : List (Key × V)} (h : EvD te σ H kvs) (k : ∀ p H1, H p = none → Ex H H1 → H1 p = some (.dK kvs) → tz D (σ.set i (some (.ref p))) H1) : tSeq (tAsg te (gName i)) tz D σ H := s_asgD (D := { D with nx := tz D }) h k
theorem s_retD {kvs : List (Key × V)} (h : EvD te σ H kvs) (k : ∀ p H1, H p = none → Ex H H1 → H1 p = some (.dK kvs) → D.rt (.ref p) H1) : tRet te D σ H := h H (Ex.refl H) _ k
theorem ed_new : EvD tDNewK σ H [] := fun H1 _ Q q p hp => q p _ hp (Ex.new hp) upd_same
end
end KSq
-- KTupD
/-! tuple(d), d a dict: its keys -/
namespace KTupD
open PySem PySem.Spec PyProof.Rows L2 Evl
section
variable {pr : Program} {w : World} {A : Around} {E : Value → Shared → Prop} {s : Shared} {T : String} {r d : Addr} {n : Nat} {Pn : Nat → Value → Prop} {OK : Heap → Prop}
theorem tup_new {Q₁ : Value → Shared → Prop} (S : PySem.W.KdlSrc pr w T r d n Pn OK) (hh : A.handled = none) (hok : OK s.heap) (hn : n ≤ sizeLine)
    (k : ∀ (g : Heap) (tk : Nat) (acc : Array Value), (∀ b o, s.heap.get? b = some o → g.get? b = some o) → ItemsOf Pn acc n → Q₁ (.ref g.objs.size) { s with heap := g.push { cls := .type "tuple", data := .seq acc }, toks := tk }) :
    codeAny (model pr w) A (.call (.builtin "tuple.__new__") ⟨[.type "tuple", .ref r], []⟩) (wants Q₁ E) s := by
  refine codeAny_of_tree ?_
  show wpAny _ A.in1 (checkBuiltinCall "tuple.__new__" ⟨[.type "tuple", .ref r], []⟩ >>= fun _ => again (.builtin "tuple.__new__" ⟨[.type "tuple", .ref r], []⟩)) _ _ s
  refine wpAny_bind (wpAny_of_eq (F.newCall_tuple_1 _) (wpAny_pure ⟨plainId_quiet F.plain_tuple_new _, codeAny_builtin F.entry_tuple_new ?_⟩))
  rw [Around.under_plainId F.plain_tuple_new _]
  have z1 := sub_tuple_self
  have z2 := init_tuple_lookup
  have z3 := madeHere_tuple
  have z4 := S.type s hok
  have z5 : (Value.type T == Value.type "tuple") = false := S.notTuple
  wp_walk using wpAny_typeOf z4, PySem.W.kdu_collect (A := A.in1) S hh hok hn
  intro g tk acc hk hacc
  show wpAny _ A.in1 (Builtin.Tuple.tupleExact acc.toList.toArray >>= ret) _ _ _
  unfold Builtin.Tuple.tupleExact
  have ea : acc.toList.toArray = acc := Array.toArray_toList
  refine wpAny_bind (wpAny_newObj_type ?_ (show acc.toList.toArray.size ≤ sizeLine by rw [ea, hacc.1]; exact hn))
  refine wpAny_pure ?_
  rw [ea]
  exact k g tk acc hk hacc
theorem tup_call {Q : Value → Shared → Prop} (S : PySem.W.KdlSrc pr w T r d n Pn OK) (hh : A.handled = none) (hok : OK s.heap) (hn : n ≤ sizeLine)
    (k : ∀ (g : Heap) (tk : Nat) (acc : Array Value), (∀ b o, s.heap.get? b = some o → g.get? b = some o) → ItemsOf Pn acc n → Q (.ref g.objs.size) { s with heap := g.push { cls := .type "tuple", data := .seq acc }, toks := tk }) :
    wpAny (model pr w) A (call (.type "tuple") [.ref r]) Q E s := by
  refine callType_codes (Q₁ := fun u s1 => s1.TypeIs u "tuple" ∧ Q u s1) F.called_tuple (F.typeCall_tuple_1 _) F.entry_object_init
    (tup_new S hh hok hn fun g tk acc hk hacc => ⟨⟨_, Heap.get?_push_size _ rfl, rfl⟩, k g tk acc hk hacc⟩) fun u s1 h1 => ?_
  exact ⟨h1.1, F.args_object_init_2 u _, object_init_meets F.called_tuple.init.lookup F.called_tuple.made (by decide) pr w A.in1 _ s1 ⟨h1.1, rfl, h1.2⟩⟩
end
def rTupD : List V → Hp → VK → Prop := fun xs H Q => ∃ (a : Addr) (kvs : List (Key × V)), xs = [.ref a] ∧ Rd H a (.dK kvs) ∧ ∀ p, H p = none → Q (.ref p) (upd H p (.tup (kvs.map fun kv => kV kv.1)))
theorem call_tupD {X : Cx} (hcalm : X.calm = true) : CallR X (.type "tuple") rTupD := by
  intro pins s σ H xs us Q I r q
  obtain ⟨a, kvs, ex, hd, q⟩ := q
  subst ex
  obtain ⟨u, eu, rx⟩ := vals1 r
  subst eu
  cases rx
  obtain ⟨z, lo, vs, rel, dd⟩ := dk_rd I.hok hd
  obtain ⟨ep, hat⟩ := dd.dictAt
  have ek : (kvs.map fun kv => kV kv.1) = vs.map fun p => kV p.1 := by
    have e := congrArg (List.map kV) rel.keys
    rw [List.map_map, List.map_map] at e
    exact e
  have el : (vs.map fun p => kV p.1).length = vs.length := List.length_map _
  refine tup_call (PySem.W.kdl_dict (knd := mixKind X.prog X.w) (kvs := vs) (ep := ep) lo) (I.ok.hd hcalm) hat (by rw [← rel.length]; exact z) fun g tk acc hk hacc => ?_
  have hv : Vals (vs.map fun p => kV p.1) acc.toList := keys_at (by rw [Array.length_toList]; exact hacc.1) fun j v e => hacc.2 j v (by rw [← Array.getElem?_toList]; exact e)
  have I1 : Inv X pins σ H { s with heap := g, toks := tk } := I.kept (t' := tk) hk
  have I2 : Inv X pins σ (upd H g.objs.size (.tup (kvs.map fun kv => kV kv.1))) { s with heap := g.push { cls := .type "tuple", data := .seq acc }, toks := tk } :=
    I1.laid (t' := tk) (fun b o e => Heap.get?_push_of_some _ e) (Nat.le_refl _) (show ObjOk X.prog X.w _ _ _ (.tup (kvs.map fun kv => kV kv.1)) from ⟨by rw [List.length_map]; exact z, acc.toList, by rw [ek]; exact hv, by rw [Array.toArray_toList]; exact IsTup.new _ _⟩)
  exact ⟨.ref g.objs.size, _, I2, rfl, q _ (I1.hok.fresh (Nat.le_refl _))⟩
end KTupD
-- KEnumT
/-! enumerate(t), t a list or a tuple -/
namespace KEnumT
open PySem PySem.Spec PyProof.Rows L2 Evl KSq PySem.W
/-- enumerate(v): the tree of its making, v told by how its iterator begins -/
theorem enum_made {v : Value} {o : Obj} {Hh : Heap → Prop} (B : Begins v o Hh) :
    Meets (Builtin.«enumerate.__new__» ⟨[.type "enumerate", v], []⟩) (fun _ R s => Hh s.heap ∧
      R (.ok (.ret (.ref (s.heap.push o).objs.size))) { s with heap := (s.heap.push o).push { cls := .type "enumerate", data := .fields #[.none, .bool false, .ref s.heap.objs.size, rawInt 0, .none, .none] } }) :=
  .of_wp fun pr w A R s y => by
    obtain ⟨hp, gs, dr, tk, os⟩ := s
    obtain ⟨y1, y2⟩ := y
    have z1 := PySem.sub_enumerate
    have z2 : ∀ {A' : Around} {E : Value → Shared → Prop} {Q : Value → Shared → Prop}, Q (.ref hp.objs.size) ⟨hp.push o, gs, dr, tk, os⟩ → wpAny (model pr w) A' (pyIter v) Q E ⟨hp, gs, dr, tk, os⟩ :=
      fun z => B.iter pr w _ _ ⟨hp, gs, dr, tk, os⟩ _ y1 z
    wp_walk using z2
    refine wpAny_stack_any fun _ => wpAny_pure ?_
    split
    · rename_i c _ _ _ _ _
      cases (c == Value.type "enumerate") <;> (wp_walk using z2; exact ⟨_, rfl, y2⟩)
    · wp_walk using z2
      exact ⟨_, rfl, y2⟩
theorem enum_call {pr : Program} {w : World} {A : Around} {E : Value → Shared → Prop} {s : Shared} {v : Value} {o : Obj} {Hh : Heap → Prop} {Q : Value → Shared → Prop} (B : Begins v o Hh) (h1 : Hh s.heap)
    (k : ∀ g, IsEnum g (s.heap.objs.size + 1) s.heap.objs.size 0 .none → g.get? s.heap.objs.size = some o → (∀ b u, s.heap.get? b = some u → g.get? b = some u) → Q (.ref (s.heap.objs.size + 1)) { s with heap := g }) :
    wpAny (model pr w) A (call (.type "enumerate") [v]) Q E s := by
  refine callType_new F.called_enumerate (by decide) (F.typeCall_enumerate_1 _) (F.newCall_enumerate_1 _) (fun u => F.args_object_init_2 u _) F.entry_enumerate_new (enum_made B) ⟨h1, ?_⟩
  have hz : (s.heap.push o).objs.size = s.heap.objs.size + 1 := Heap.size_push ..
  show _ ∧ _
  rw [hz]
  have he : IsEnum ((s.heap.push o).push { cls := .type "enumerate", data := .fields #[.none, .bool false, .ref s.heap.objs.size, rawInt 0, .none, .none] }) (s.heap.objs.size + 1) s.heap.objs.size 0 .none := by
    have z := Heap.get?_push_size (s.heap.push o) (o := { cls := .type "enumerate", data := .fields #[.none, .bool false, .ref s.heap.objs.size, rawInt 0, .none, .none] }) rfl
    rwa [hz] at z
  exact ⟨⟨_, he, rfl⟩, k _ he (Heap.get?_push_of_some _ (Heap.get?_push_size _ B.free)) fun b u x => Heap.get?_push_of_some _ (Heap.get?_push_of_some _ x)⟩
/-- the tuple at a, each item in a new pair -/
def Iet (K : PySem.W.Frag) (a : Addr) : It :=
  ⟨fun i H => ∃ (xs : List V) (x : V), SqT K H a xs ∧ xs[i]? = some x, fun i H v H' => ∃ T x, v = .ref T ∧ H T = none ∧ H' = upd H T (.tup [.int (i : Nat), x]) ∧ ∀ xs, SqT K H a xs → xs[i]? = some x, fun i H => ∃ xs : List V, SqT K H a xs ∧ xs.length = i⟩
theorem turn_enumT {P : Program} {w : World} {K : PySem.W.Frag} {elts : List Expr} {kk : Nat} {tpos : Pos} (a e it : Addr) (hat : a ≠ it) (hae : a ≠ e) :
    Turn P w K (.Tuple elts kk tpos) (Iet K a) [e, it] e (fun i h => (∃ old, IsEnum h e it ((i : Nat) : Int) old) ∧ h.IsTupleIter it a i ∧ e ≠ it) where
  mem := by simp
  obj := fun i h st b hb => by
    obtain ⟨⟨old, he⟩, ⟨o, ho, hc, hd⟩, _⟩ := st
    rcases List.mem_cons.mp hb with z | z
    · rw [z]
      exact ⟨_, he, fun v q => nomatch q⟩
    · rw [List.mem_singleton.mp z]
      exact ⟨o, ho, fun v q => by rw [hd] at q; cases q⟩
  keep := fun i h h' st k => ⟨st.1.imp fun old he => k e (by simp) _ he, st.2.1.at fun o q => k it (by simp) o q, st.2.2⟩
  item := by
    intro X hP hw hK hc i pins s σ H E I hf st hg
    subst hP hw hK
    obtain ⟨⟨old, he⟩, hit, hne⟩ := st
    obtain ⟨xs, x, hq, hx⟩ := hg
    obtain ⟨its, rv, p, hz⟩ := I.tuple hq
    obtain ⟨u, hu, ru⟩ := rv.get hx
    have hel : e < s.heap.objs.size := Heap.lt_size he
    have hil : it < s.heap.objs.size := by
      obtain ⟨_, q, _⟩ := hit
      exact Heap.lt_size q
    have hlt : i < its.toArray.size := by
      have := (List.getElem?_eq_some_iff.mp hu).1
      simpa using this
    refine wpAny_pyNext_enum_itemD (Draws.tuple (prog := X.prog) (w := X.w) (A := X.A.in1) (I.ok.hd hc) it a hat its.toArray) he ⟨hit, p⟩ hlt hne (by simp [hne, Ne.symm hae]) fun y h' tk hy ho hst hT hsz hk => ?_
    have hyu : y = u := by
      have hy : its.toArray[i]? = some y := hy
      rw [List.getElem?_toArray, hu] at hy
      exact (Option.some.inj hy).symm
    subst hyu
    refine ⟨_, rfl, wpAny_letOwnedTupleGo_enum (s := { s with heap := h', toks := tk + 1 }) ho fun h2 he2 sb => ?_⟩
    have hT2 : h2.get? s.heap.objs.size = some { cls := .type "tuple", data := .seq #[.int i tk, y] } := (sb.2 _ (Nat.ne_of_gt hel)).trans hT
    have fresh : ObjOk X.prog X.w (upd H s.heap.objs.size (.tup [.int (i : Nat), x])) h2 s.heap.objs.size (.tup [.int (i : Nat), x]) :=
      ⟨by show 2 ≤ sizeLine; decide, [.int i tk, y], .cons ⟨_, rfl⟩ (.cons ru .nil), ⟨_, hT2, rfl, _, rfl⟩⟩
    have I1 : Inv X pins σ (upd H s.heap.objs.size (.tup [.int (i : Nat), x])) { s with heap := h2, toks := tk + 1 } :=
      I.turnedNew (ch := [e, it]) (fun b u hb q => by
        have b1 : b ≠ e := fun z => hb (by simp [z])
        have b2 : b ≠ it := fun z => hb (by simp [z])
        exact (sb.2 b b1).trans (hk b u b1 b2 q)) hf (Nat.le_refl _) fresh
    refine ⟨.ref s.heap.objs.size, _, I1, rfl, ⟨_, x, rfl, I.hok.fresh (Nat.le_refl _), rfl, fun ys hy => by rw [I.tuple_inj hy hq]; exact hx⟩, ⟨⟨y, ?_⟩, hst.1.at fun u q => (sb.2 it (Ne.symm hne)).trans q, hne⟩, fun b hb => ?_⟩
    · rw [show ((i + 1 : Nat) : Int) = (i : Int) + 1 by omega]
      exact he2
    · have hb2 : b < s.heap.objs.size := by
        rcases List.mem_cons.mp hb with z | z
        · rw [z]
          exact hel
        · rw [List.mem_singleton.mp z]
          exact hil
      rw [upd_ne (Nat.ne_of_lt hb2)]
      exact (hf b hb).1
  done := by
    intro X hP hw hK hc i pins s σ H E I hf st hg
    subst hP hw hK
    obtain ⟨⟨old, he⟩, hit, hne⟩ := st
    obtain ⟨xs, hq, hx⟩ := hg
    obtain ⟨its, rv, p, hz⟩ := I.tuple hq
    obtain ⟨f0, f1, f2, f3, f4, f5⟩ := hf it (by simp)
    have hl := rv.length
    have hn : its.toArray.size = i := by
      rw [List.size_toArray]
      omega
    subst hn
    exact wpAny_pyNext_enum_endD (Draws.tuple (prog := X.prog) (w := X.w) (A := X.A.in1) (I.ok.hd hc) it a hat its.toArray) he ⟨hit, p⟩ fun g eb => ⟨rfl, I.turned (t' := s.toks) (fun b u hb q => eb b u hb q) f0 f1 f3 f4 f5⟩
  self := fun A i s Q E st h => let ⟨⟨_, he⟩, _⟩ := st; wpAny_pyIter_enum he h
def iEnumT (K : PySem.W.Frag) (ta : TA) : TI := fun σ H R => ta σ H fun vs H1 => ∃ a xs, vs = [.ref a] ∧ SqT K H1 a xs ∧ R (Iet K a) H1
theorem pi_enumT {X : Cx} {e : Expr} {ta : TA} {p pos tpos : Pos} {elts : List Expr} {kk : Nat} (hg : Gl X "enumerate") (hm : X.mg "enumerate" = none) (ha : PA X [e] ta) (hs : starEach [e] X.env = [(false, eval e X.env)] := by rfl) :
    PI X (.Tuple elts kk tpos) (.Call (.Name "enumerate" p) [e] [] pos) (iEnumT X.K ta) := by
  refine ⟨fun pins s σ H R I h => Call_ (ld_blt I hg hm boot_enumerate (PyProof.Rows.callWith_type1 (thn (ha.run pos pins s σ H _ I h) fun us s1 ⟨vs, H1, I1, r1, q1⟩ => ?_) hs rfl))⟩
  obtain ⟨a, xs, ex, hq, q⟩ := q1
  subst ex
  obtain rfl := Vals.ref1 r1
  obtain ⟨its, rv, p2, hz⟩ := I1.tuple hq
  refine enum_call (begins_tuple a its.toArray) p2 fun g he hit hk => wpAny_pyIter_enum he ?_
  have I2 : Inv X pins σ H1 { s1 with heap := g } := I1.kept (t' := s1.toks) hk
  have hlt : a < s1.heap.objs.size := by
    obtain ⟨o, ho, _⟩ := p2
    exact Heap.lt_size ho
  refine ⟨s1.heap.objs.size + 1, [s1.heap.objs.size + 1, s1.heap.objs.size], _, _, H1, rfl, I2, turn_enumT a (s1.heap.objs.size + 1) s1.heap.objs.size (Nat.ne_of_lt hlt) (Nat.ne_of_lt (Nat.lt_succ_of_lt hlt)), ⟨⟨.none, he⟩, ⟨_, hit, rfl, rfl⟩, Nat.succ_ne_self _⟩, fun b hb => ?_, q⟩
  have hle : s1.heap.objs.size ≤ b := by
    rcases List.mem_cons.mp hb with z | z
    · rw [z]
      exact Nat.le_add_right _ _
    · rw [List.mem_singleton.mp z]
      exact Nat.le_refl _
  exact I1.fpOk hle (I1.hok.fresh hle)
theorem walk_enumT {K : PySem.W.Frag} {a : Addr} {xs : List V} : Walk (Iet K a) xs.length (fun H => SqT K H a xs) (YPair (fun i => some (.int (i : Nat))) (fun i => xs[i]?)) :=
  ⟨fun i _ hi q => ⟨xs, xs[i], q, by simp [hi]⟩, fun _ q => ⟨xs, q, rfl⟩, fun i H v H' _ q ⟨T, x, h1, h2, h3, h4⟩ => ⟨T, .int (i : Nat), x, h1, h2, h3, rfl, h4 xs q⟩⟩
/-- a list or a tuple -/
def iEnumS (K : PySem.W.Frag) (ta : TA) : TI := fun σ H R => iEnum K ta σ H R ∨ iEnumT K ta σ H R
theorem pi_enumS {X : Cx} {e : Expr} {ta : TA} {p pos tpos : Pos} {elts : List Expr} {kk : Nat} (hg : Gl X "enumerate") (hm : X.mg "enumerate" = none) (ha : PA X [e] ta) (hs : starEach [e] X.env = [(false, eval e X.env)] := by rfl) :
    PI X (.Tuple elts kk tpos) (.Call (.Name "enumerate" p) [e] [] pos) (iEnumS X.K ta) := ⟨fun pins s σ H R I h => h.elim ((pi_enum hg hm ha hs).run pins s σ H R I) ((pi_enumT hg hm ha hs).run pins s σ H R I)⟩
theorem ienum_go {K : PySem.W.Frag} {tl : TE} {σ : L2.St} {H : Hp} {a : Addr} {xs : List V} {R : It → Hp → Prop} (h : Ev tl σ H (.ref a)) (hx : Sq K H a xs)
    (k : ∀ (J : It) (G : Hp → Prop) H1, Ex H H1 → (∀ H2, Ex H H2 → G H2) → Walk J xs.length G (YPair (fun i => some (.int (i : Nat))) (fun i => xs[i]?)) → R J H1) : iEnumS K (tCons tl tNil) σ H R := by
  rcases hx with hx | hx
  · exact .inl (h H (Ex.refl H) _ fun H1 e => ⟨a, xs, rfl, ex_l e hx, k _ (fun H => SqL K H a xs) H1 e (fun H2 e2 => ex_l e2 hx) walk_enum⟩)
  · exact .inr (h H (Ex.refl H) _ fun H1 e => ⟨a, xs, rfl, ex_t e hx, k _ (fun H => SqT K H a xs) H1 e (fun H2 e2 => ex_t e2 hx) walk_enumT⟩)
end KEnumT
-- KDd
/-! what is unlike, in the order of first appearance; a dict used as a set -/
namespace KDd
open PySem PySem.Spec PyProof.Rows L2 Evl KSq
section
variable {α : Type} [DecidableEq α]
def addS (ws : List α) (x : α) : List α := if x ∈ ws then ws else ws ++ [x]
def dd (ss : List α) : List α := ss.foldl addS []
theorem addS_mem {ws : List α} {x y : α} : y ∈ addS ws x ↔ y ∈ ws ∨ y = x := by
  unfold addS
  split
  · rename_i h
    exact ⟨.inl, fun z => z.elim id fun z => z ▸ h⟩
  · simp
theorem addS_nodup {ws : List α} {x : α} (h : ws.Nodup) : (addS ws x).Nodup := by
  unfold addS
  split
  · exact h
  · rename_i hx
    rw [List.nodup_append]
    exact ⟨h, List.pairwise_singleton .., fun a ha b hb z => hx (by rw [List.mem_singleton.mp hb] at z; rwa [← z])⟩
theorem addS_len {ws : List α} {x : α} : (addS ws x).length ≤ ws.length + 1 := by
  unfold addS
  split
  · omega
  · rw [List.length_append]
    exact Nat.le_refl _
theorem fold_mem {ss : List α} : ∀ {ws : List α} {y : α}, y ∈ ss.foldl addS ws ↔ y ∈ ws ∨ y ∈ ss := by
  induction ss with
  | nil => simp
  | cons x r ih =>
    intro ws y
    rw [List.foldl_cons, ih, addS_mem, List.mem_cons, or_assoc]
theorem fold_nodup {ss : List α} : ∀ {ws : List α}, ws.Nodup → (ss.foldl addS ws).Nodup := by
  induction ss with
  | nil => exact fun h => h
  | cons x r ih => exact fun h => ih (addS_nodup h)
theorem fold_len {ss : List α} : ∀ {ws : List α}, (ss.foldl addS ws).length ≤ ws.length + ss.length := by
  induction ss with
  | nil => exact Nat.le_refl _
  | cons x r ih =>
    intro ws
    have h1 := ih (ws := addS ws x)
    have h2 := addS_len (ws := ws) (x := x)
    rw [List.foldl_cons, List.length_cons]
    omega
theorem dd_mem {ss : List α} {y : α} : y ∈ dd ss ↔ y ∈ ss := by
  unfold dd
  rw [fold_mem]
  simp
theorem dd_nodup {ss : List α} : (dd ss).Nodup := fold_nodup List.nodup_nil
theorem dd_len {ss : List α} : (dd ss).length ≤ ss.length := by
  have := fold_len (ss := ss) (ws := [])
  simpa [dd] using this
theorem fold_in {ss : List α} : ∀ {ws : List α}, (∀ y ∈ ss, y ∈ ws) → ss.foldl addS ws = ws := by
  induction ss with
  | nil => exact fun _ => rfl
  | cons x r ih =>
    intro ws h
    have e : addS ws x = ws := if_pos (h x List.mem_cons_self)
    rw [List.foldl_cons, e]
    exact ih fun y hy => h y (List.mem_cons_of_mem _ hy)
theorem dd_snoc {ss : List α} {x : α} : dd (ss ++ [x]) = addS (dd ss) x := by
  unfold dd
  rw [List.foldl_append]
  rfl
theorem dd_take {ss : List α} {i : Nat} {x : α} (h : ss[i]? = some x) : dd (ss.take (i + 1)) = addS (dd (ss.take i)) x := by
  rw [List.take_add_one, h, ← dd_snoc]
  rfl
theorem dd_self : ∀ {ss : List α}, ss.Nodup → dd ss = ss := by
  intro ss h
  have z : ∀ (r ws : List α), (ws ++ r).Nodup → r.foldl addS ws = ws ++ r := by
    intro r
    induction r with
    | nil => intro ws _; simp
    | cons x r ih =>
      intro ws hn
      have hx : x ∉ ws := fun z => by
        rw [List.nodup_append] at hn
        exact hn.2.2 x z x List.mem_cons_self rfl
      have e : addS ws x = ws ++ [x] := if_neg hx
      rw [List.foldl_cons, e, ih (ws ++ [x]) (by simpa using hn)]
      simp
  simpa [dd] using z ss [] (by simpa using h)
theorem dd_more {us ss : List α} (h : us.Nodup) (hs : ∀ y ∈ ss, y ∈ us) : dd (us ++ ss) = us := by
  have e := dd_self h
  unfold dd at e ⊢
  rw [List.foldl_append, e]
  exact fold_in hs
end
/-- a set kept as a dict -/
def tkv (ws : List Str) : List (Key × V) := ws.map fun x => (Sum.inr x, V.bl true)
theorem tkv_len (ws : List Str) : (tkv ws).length = ws.length := List.length_map _
theorem tkv_keys (ws : List Str) : ((tkv ws).map fun kv => kV kv.1) = ws.map V.str := by
  unfold tkv
  rw [List.map_map]
  rfl
theorem valV_tkv (ws : List Str) (x : Str) : valV (tkv ws) (Sum.inr x) = if x ∈ ws then some (.bl true) else none := by
  induction ws with
  | nil => rfl
  | cons y r ih =>
    by_cases e : y = x
    · rw [if_pos (e ▸ List.mem_cons_self)]
      exact valV_pos (p := (Sum.inr y, V.bl true)) (show (Sum.inr y : Key) = Sum.inr x by rw [e])
    · have h := valV_neg (p := ((Sum.inr y : Key), V.bl true)) (r := tkv r) (k := Sum.inr x) (fun z => e (Sum.inr.inj z))
      show valV ((Sum.inr y, V.bl true) :: tkv r) (Sum.inr x) = _
      rw [h, ih]
      by_cases hx : x ∈ r
      · rw [if_pos hx, if_pos (List.mem_cons_of_mem _ hx)]
      · rw [if_neg hx, if_neg fun z => (List.mem_cons.mp z).elim (fun z => e z.symm) hx]
theorem put_tkv (ws : List Str) (x : Str) : putK (tkv ws) (Sum.inr x) (.bl true) = tkv (addS ws x) := by
  by_cases h : x ∈ ws
  · have ha : ((tkv ws).any fun kv => decide (kv.1 = (Sum.inr x : Key))) = true := by
      rw [valV_any, valV_tkv, if_pos h]
      rfl
    unfold putK addS
    rw [if_pos ha, if_pos h]
    unfold tkv
    rw [List.map_map]
    refine List.map_congr_left fun y _ => ?_
    show (if (Sum.inr y : Key) = Sum.inr x then (Sum.inr y, V.bl true) else (Sum.inr y, V.bl true)) = _
    split <;> rfl
  · rw [putK_new _ (by rw [valV_tkv, if_neg h])]
    unfold addS
    rw [if_neg h]
    unfold tkv
    rw [List.map_append]
    rfl
theorem made_tkv {ss : List Str} : ∀ n, n ≤ ss.length → madeK n (fun i => Sum.inr (ss.getD i Str.empty)) (fun _ => V.bl true) = tkv (dd (ss.take n)) := by
  intro n
  induction n with
  | zero => exact fun _ => rfl
  | succ n ih =>
    intro h
    have hx : ss[n]? = some (ss.getD n Str.empty) := by
      rw [List.getD_eq_getElem?_getD, List.getElem?_eq_getElem (by omega)]
      rfl
    rw [madeK_succ, ih (by omega), put_tkv, dd_take hx]
/-- x in a list of texts -/
theorem inV_txt {x : Str} {ws : List Str} : inV (.str x) (ws.map V.str) = decide (x ∈ ws) := by
  unfold inV
  rw [List.any_map]
  induction ws with
  | nil => rfl
  | cons y r ih =>
    rw [List.any_cons, ih]
    by_cases e : y = x
    · subst e
      have : eqV (.str y) (.str y) = true := by simp [eqV]
      simp [this]
    · have e2 : ¬ x = y := fun z => e z.symm
      have : eqV (.str y) (.str x) = false := by simp [eqV, e]
      simp [this, e2]
theorem flat_txt (ws : List Str) : (ws.map V.str).all flatV = true := by
  rw [List.all_map, List.all_eq_true]
  intro x _
  rfl
end KDd
-- KDc
/-! y = {k: v for x in xs} -/
namespace KDc
open PySem PySem.Spec PyProof.Rows L2
section
variable {X : Cx}
theorem ps_setDc {i : Nat} {y : Str} {py : Pos} {kx vx tg iter : Expr} {ifs : List Expr} {scope : Scope} {own : List (Str × Nat)} {pos spos : Pos} {wi : TI} {g : TG} {tt : TT} {tk tv : TE} (hc : X.calm = true) (hN : X.N.Nodup) (hy : X.N[i]? = some y) (hyl : X.env.scope.names.lookup y = some .local)
    (hsw : swapsWith (.DictComp kx vx [⟨tg, iter, ifs, 0⟩] scope pos) (some (.Name y py)) spos.line X.env = pure true) (hi : PI X tg iter wi) (ok : BlkOk X.N X.env.scope scope own)
    (hg : ∀ (s : Shared) (H : Hp) (L : Addr) (cl : List (Str × Addr)) (fp : List Addr), PG (X.blk s H scope (compEnvC scope cl L X.env) fp) tg g) (ht : ∀ (s : Shared) (H : Hp) (L : Addr) (cl : List (Str × Addr)) (fp : List Addr), PTs (X.blk s H scope (compEnvC scope cl L X.env) fp) ifs tt)
    (hk : ∀ (s : Shared) (H : Hp) (L : Addr) (cl : List (Str × Addr)) (fp : List Addr), PE (X.blk s H scope (compEnvC scope cl L X.env) fp) kx tk)
    (he : ∀ (s : Shared) (H : Hp) (L : Addr) (cl : List (Str × Addr)) (fp : List Addr), PE (X.blk s H scope (compEnvC scope cl L X.env) fp) vx tv) (hs : ∀ x, foldedSetIterable iter X.env x = pure x := by intro _; rfl) :
    PS X (.Assign [.Name y py] (.DictComp kx vx [⟨tg, iter, ifs, 0⟩] scope pos) spos) (tAsg (tDc wi g tt tk tv (own.map (·.2))) (gName i)) := by
  refine ⟨fun pins s σ H D I h => ?_⟩
  rw [exec_Assign_Name_used _ _ _ _ hsw]
  refine wpAny_bind (wpAny_standAt (wpAny_bind ?_))
  show wpAny _ X.A (comprehension (.DictComp kx vx [⟨tg, iter, ifs, 0⟩] scope pos) scope X.env (firstIterPos [⟨tg, iter, ifs, 0⟩] pos) newDict false (eval iter X.env) (some (assign (.Name y py) X.env)) >>= fun _ => _) _ _ s
  have h1 : tDc wi g tt tk tv (own.map (·.2)) σ H (fun x H1 => gName i x σ H1 D.nx) := h
  refine wpAny_bind (thn (dc_core (Qf := fun _ s' => SP X pins D .next s') hc hN I hi ok hg ht hk he hs h1 fun L c s' m H' I' q hn f => ?_) fun _ s' hq => wpAny_pure (wpAny_pure hq))
  show wpAny _ _ (assign (.Name y py) X.env (.ref L)) _ _ _
  refine wpAny_assign_Name (store_ok2 (v := V.ref L) I' hN hy (.inl hyl) rfl (fun s2 I2 ⟨a, sb, ha⟩ => ?_) (.inr hyl))
  obtain ⟨f0, f1, f2, f3, f4, f5⟩ := f
  have hne : c ≠ a := ha.elim (fun z => by rw [z]; exact f1) fun z e => f4 y a z e.symm
  exact ⟨m, hn.sameBut sb hne, fun h3 sb3 => ⟨_, H', I2.turned (t' := s2.toks) (fun b o hb e => (sb3.2 b hb).trans e) f0 f1 f3 f4 f5, q⟩⟩
theorem sw_dict {kx vx : Expr} {gs : List Comprehension} {scope : Scope} {pos py : Pos} {y : Str} {l : Nat} {env : Env} (hk : env.scope.kind = .function) (hy : env.scope.names.lookup y = some .local) (hl : (py.line == pos.line) = true)
    (ha : (scope.names.any fun (n, k) => n == y && (k == .local || k == .cell)) = false) : swapsWith (.DictComp kx vx gs scope pos) (some (.Name y py)) l env = pure true := by
  have z1 : env.kindOf y = some .local := hy
  have z2 : env.blockKind = .function := by
    unfold Env.blockKind
    rw [hk]
    rfl
  unfold swapsWith
  simp only [z1, z2, ha, Expr.pos, hl]
  rfl
end
end KDc
-- KTxt
/-! split, join, dict.get, max with default in the manner of Evl -/
namespace KTxt
open PySem PySem.Spec PyProof.Rows L2 Evl KSq TL
def rSplitS : V → List V → Hp → VK → Prop := fun x xs H Q => ∃ a b, x = .str a ∧ xs = [.str b] ∧ (b.length == 0) = false ∧ a.length + 2 ≤ sizeLine ∧ rNewStrs (Txt.split a b) H Q
def rJoinS (K : PySem.W.Frag) : V → List V → Hp → VK → Prop := fun x xs H Q => ∃ a p, ∃ ys : List Str, x = .str a ∧ xs = [.ref p] ∧ (SqL K H p (ys.map V.str) ∨ SqT K H p (ys.map V.str)) ∧ (ys.map (·.length)).sum + ys.length * a.length ≤ 16777216 ∧ Q (.str (Txt.join a ys)) H
section
variable {X : Cx} {o e : Expr} {to te : TE} {apos pos : Pos}
theorem pe_splitS (ho : PE X o to) (he : PE X e te) (hs : starEach [e] X.env = [(false, eval e X.env)] := by rfl) (hbase : attributeBase o "split" X.env (eval o X.env) = eval o X.env := by rfl) (hline : (apos.endLine == pos.line) = true := by rfl) :
    PE X (.Call (.Attribute o "split" apos) [e] [] pos) (tM1 rSplitS to te) := pe_split ho he hs hbase hline
theorem pe_joinS (ho : PE X o to) (he : PE X e te) (hs : starEach [e] X.env = [(false, eval e X.env)] := by rfl) (hbase : attributeBase o "join" X.env (eval o X.env) = eval o X.env := by rfl) (hline : (apos.endLine == pos.line) = true := by rfl) :
    PE X (.Call (.Attribute o "join" apos) [e] [] pos) (tM1 (rJoinS X.K) to te) := pe_join ho he hs hbase hline
end
section
variable {K : PySem.W.Frag} {σ : L2.St} {H : Hp} {to te td ty tx : TE}
theorem el_split {a b : Str} (ho : Ev to σ H (.str a)) (he : Ev te σ H (.str b)) (hb : (b.length == 0) = false) (hl : a.length ≤ 1000000) : EvL (tM1 rSplitS to te) σ H ((Txt.split a b).map V.str) := fun H1 e Q q =>
  ho H1 e _ fun H2 e2 => ⟨⟨a, rfl⟩, he H2 (e.trans e2) _ fun H3 e3 => ⟨a, b, rfl, rfl, hb, Nat.le_trans (show a.length + 2 ≤ 1000002 by omega) (by decide), fun p hp => q p _ (fresh_back (e2.trans e3) hp) ((e2.trans e3).trans (Ex.new hp)) upd_same⟩⟩
/-- a new list, joined -/
theorem ev_joinL {a : Str} {ys : List Str} (ho : Ev to σ H (.str a)) (he : EvL te σ H (ys.map V.str)) (hl : (ys.map (·.length)).sum + ys.length * a.length ≤ 16777216) : Ev (tM1 (rJoinS K) to te) σ H (.str (Txt.join a ys)) := fun H1 e Q q =>
  ho H1 e _ fun H2 e2 => ⟨⟨a, rfl⟩, he H2 (e.trans e2) _ fun p H3 hp e3 h3 => ⟨a, p, ys, rfl, rfl, .inl (sq_of h3), hl, q H3 (e2.trans e3)⟩⟩
/-- a list that stands, joined -/
theorem ev_join {a : Str} {p : Addr} {ys : List Str} (ho : Ev to σ H (.str a)) (he : Ev te σ H (.ref p)) (hp : SqL K H p (ys.map V.str)) (hl : (ys.map (·.length)).sum + ys.length * a.length ≤ 16777216) : Ev (tM1 (rJoinS K) to te) σ H (.str (Txt.join a ys)) := fun H1 e Q q =>
  ho H1 e _ fun H2 e2 => ⟨⟨a, rfl⟩, he H2 (e.trans e2) _ fun H3 e3 => ⟨a, p, ys, rfl, rfl, .inl (ex_l ((e.trans e2).trans e3) hp), hl, q H3 (e2.trans e3)⟩⟩
/-- d.get(k, x) -/
theorem ev_get2 {a : Addr} {kvs : List (Key × V)} {k : Key} {z : V} (hd : Ev td σ H (.ref a)) (hk : Ev ty σ H (kV k)) (hx : Ev tx σ H z) (h : H a = some (.dK kvs)) : Ev (tDGet2 td ty tx) σ H ((valV kvs k).getD z) := fun H1 e Q q =>
  hd H1 e _ fun H2 e2 => ⟨a, rfl, .inl ⟨kvs, .inl (e2 _ _ (e _ _ h))⟩, hk H2 (e.trans e2) _ fun H3 e3 => hx H3 ((e.trans e2).trans e3) _ fun H4 e4 => ⟨_, DGet.k (e4 _ _ (e3 _ _ (e2 _ _ (e _ _ h)))), q H4 ((e2.trans e3).trans e4)⟩⟩
/-- d[k] -/
theorem ev_dget {a : Addr} {kvs : List (Key × V)} {k : Key} {v : V} (hd : Ev td σ H (.ref a)) (hk : Ev ty σ H (kV k)) (h : H a = some (.dK kvs)) (hv : valV kvs k = some v) : Ev (tDGet td ty) σ H v := fun H1 e Q q =>
  hd H1 e _ fun H2 e2 => hk H2 (e.trans e2) _ fun H3 e3 => ⟨a, v, rfl, by rw [← hv]; exact DGet.k (e3 _ _ (e2 _ _ (e _ _ h))), q H3 (e2.trans e3)⟩
/-- d[k] = v -/
theorem s_dput {D : Ends} {a : Addr} {kvs : List (Key × V)} {k : Key} {v : V} (hv : Ev tx σ H v) (hd : Ev td σ H (.ref a)) (hk : Ev ty σ H (kV k)) (h : H a = some (.dK kvs)) (hl : kvs.length ≤ 100000) (kk : ∀ H1, Ex H H1 → D.nx σ (upd H1 a (.dK (putK kvs k v)))) : sDPut td ty tx D σ H :=
  hv H (Ex.refl H) _ fun H1 e1 => hd H1 e1 _ fun H2 e2 => hk H2 (e1.trans e2) _ fun H3 e3 => ⟨a, _, rfl, DPut.k (e3 _ _ (e2 _ _ (e1 _ _ h))) (Nat.lt_of_le_of_lt hl (by decide)), kk H3 ((e1.trans e2).trans e3)⟩
theorem q_dput {D : Ends} {tz : TS} {a : Addr} {kvs : List (Key × V)} {k : Key} {v : V} (hv : Ev tx σ H v) (hd : Ev td σ H (.ref a)) (hk : Ev ty σ H (kV k)) (h : H a = some (.dK kvs)) (hl : kvs.length ≤ 100000) (kk : ∀ H1, Ex H H1 → tz D σ (upd H1 a (.dK (putK kvs k v)))) : tSeq (sDPut td ty tx) tz D σ H :=
  s_dput (D := { D with nx := tz D }) hv hd hk h hl kk
/-- words -/
theorem split_back {ws : List Str} (hne : ws ≠ []) (h : ∀ x ∈ ws, 32 ∉ tl x) : Txt.split (Txt.join (" " : Str) ws) (" " : Str) = ws := split_join (s := 32) (S := []) rfl (by decide +kernel) hne h
theorem join_len (y : Str) : ∀ parts : List Str, (tl (Str.join y parts)).length ≤ (parts.map (·.length)).sum + parts.length * y.length
  | [] => Nat.zero_le _
  | [x] => by
    show (tl x).length ≤ _
    rw [← len_tl]
    simp only [List.map_cons, List.map_nil, List.sum_cons, List.sum_nil]
    omega
  | x :: z :: r => by
    show (tl (x ++ y ++ Str.join y (z :: r))).length ≤ _
    have ih := join_len y (z :: r)
    rw [tl_append, tl_append, List.length_append, List.length_append, ← len_tl x, ← len_tl y]
    simp only [List.map_cons, List.sum_cons, List.length_cons] at ih ⊢
    rw [Nat.add_mul] at ih ⊢
    rw [Nat.add_mul]
    omega
theorem txt_len (ws : List Str) : (Txt.join (" " : Str) ws).length ≤ (ws.map (·.length)).sum + ws.length := by
  rw [join_eq, len_tl]
  have := join_len (" " : Str) ws
  have e : (" " : Str).length = 1 := rfl
  rw [e] at this
  omega
theorem sum_le {ws : List Str} {m : Nat} (h : ∀ x ∈ ws, x.length ≤ m) : (ws.map (·.length)).sum ≤ ws.length * m := by
  induction ws with
  | nil => simp
  | cons x r ih =>
    have h1 := ih fun y hy => h y (List.mem_cons_of_mem _ hy)
    have h2 := h x List.mem_cons_self
    rw [List.map_cons, List.sum_cons, List.length_cons, Nat.add_mul]
    omega
end
end KTxt
-- KSq2
/-! loops over what a smaller heap B knows, while other objects change -/
namespace KSq
open PySem PySem.Spec PyProof.Rows L2 Evl KEv
section
variable {K : PySem.W.Frag} {σ : L2.St} {B H : Hp} {a : Addr} {xs : List V} {tl te tk tv : TE} {t : TT} {D : Ends} {tu tz : TS} {j : Nat} {vs : List Nat}
theorem iseq_goB {R : It → Hp → Prop} (eB : Ex B H) (h : Ev tl σ B (.ref a)) (hx : Sq K B a xs)
    (k : ∀ (J : It) (G : Hp → Prop) H1, Ex H H1 → (∀ H2, Ex B H2 → G H2) → Walk J xs.length G (YAt xs) → R J H1) : iSeq K tl σ H R := by
  rcases hx with hx | hx
  · exact .inl (h H eB _ fun H1 e => ⟨a, rfl, ⟨xs, ex_l (eB.trans e) hx⟩, k _ (fun H => SqL K H a xs) H1 e (fun H2 e2 => ex_l e2 hx) walk_list⟩)
  · exact .inr (h H eB _ fun H1 e => ⟨a, rfl, ⟨xs, ex_t (eB.trans e) hx⟩, k _ (fun H => SqT K H a xs) H1 e (fun H2 e2 => ex_t e2 hx) walk_tup⟩)
theorem s_forSqB (eB : Ex B H) (h : Ev tl σ B (.ref a)) (hx : Sq K B a xs) (Pv : Nat → L2.St → Hp → Prop) (h0 : ∀ H1, Ex H H1 → Pv 0 σ H1) (hp : ∀ i σ' H', Pv i σ' H' → Ex B H')
    (hs : ∀ i x σ' H', xs[i]? = some x → Pv i σ' H' → tu { D with nx := Pv (i + 1), ct := Pv (i + 1), bk := D.nx } (σ'.set j (some x)) H') (hd : ∀ σ' H', Pv xs.length σ' H' → D.nx σ' H') : tFor (iSeq K tl) (gName j) tu D σ H :=
  iseq_goB eB h hx fun J G H1 e1 hg w => for_it w Pv (h0 H1 e1) (fun i σ' H' _ p => hg H' (hp i σ' H' p)) (fun i x σ' H2 H3 _ p y => by
    obtain ⟨rfl, hx⟩ := y
    exact hs i x σ' _ hx p) hd
theorem q_forSqB (eB : Ex B H) (h : Ev tl σ B (.ref a)) (hx : Sq K B a xs) (Pv : Nat → L2.St → Hp → Prop) (h0 : ∀ H1, Ex H H1 → Pv 0 σ H1) (hp : ∀ i σ' H', Pv i σ' H' → Ex B H')
    (hs : ∀ i x σ' H', xs[i]? = some x → Pv i σ' H' → tu { D with nx := Pv (i + 1), ct := Pv (i + 1), bk := tz D } (σ'.set j (some x)) H') (hd : ∀ σ' H', Pv xs.length σ' H' → tz D σ' H') : tSeq (tFor (iSeq K tl) (gName j) tu) tz D σ H :=
  s_forSqB (D := { D with nx := tz D }) eB h hx Pv h0 hp hs hd
/-- a list only -/
theorem s_forLB (eB : Ex B H) (h : Ev tl σ B (.ref a)) (hx : SqL K B a xs) (Pv : Nat → L2.St → Hp → Prop) (h0 : ∀ H1, Ex H H1 → Pv 0 σ H1) (hp : ∀ i σ' H', Pv i σ' H' → Ex B H')
    (hs : ∀ i x σ' H', xs[i]? = some x → Pv i σ' H' → tu { D with nx := Pv (i + 1), ct := Pv (i + 1), bk := D.nx } (σ'.set j (some x)) H') (hd : ∀ σ' H', Pv xs.length σ' H' → D.nx σ' H') : tFor (iList K tl) (gName j) tu D σ H :=
  h H eB _ fun H1 e => ⟨a, rfl, ⟨xs, ex_l (eB.trans e) hx⟩, for_it walk_list Pv (h0 H1 e) (fun i σ' H' _ p => ex_l (hp i σ' H' p) hx) (fun i x σ' H2 H3 _ p y => by
    obtain ⟨rfl, hx⟩ := y
    exact hs i x σ' _ hx p) hd⟩
theorem q_forLB (eB : Ex B H) (h : Ev tl σ B (.ref a)) (hx : SqL K B a xs) (Pv : Nat → L2.St → Hp → Prop) (h0 : ∀ H1, Ex H H1 → Pv 0 σ H1) (hp : ∀ i σ' H', Pv i σ' H' → Ex B H')
    (hs : ∀ i x σ' H', xs[i]? = some x → Pv i σ' H' → tu { D with nx := Pv (i + 1), ct := Pv (i + 1), bk := tz D } (σ'.set j (some x)) H') (hd : ∀ σ' H', Pv xs.length σ' H' → tz D σ' H') : tSeq (tFor (iList K tl) (gName j) tu) tz D σ H :=
  s_forLB (D := { D with nx := tz D }) eB h hx Pv h0 hp hs hd
/-- over a new list: it stays as long as B and it are known -/
theorem s_forNB (eB : Ex B H) (h : EvL tl σ B xs) (Pv : Nat → L2.St → Hp → Prop) (h0 : ∀ H1, Ex H H1 → Pv 0 σ H1) (q : Addr → Prop) (hq : ∀ p, H p = none → q p)
    (hp : ∀ i σ' H', Pv i σ' H' → True)
    (hs : ∀ (p : Addr) i x σ' H', q p → xs[i]? = some x → Pv i σ' H' → H' p = some (.lst xs) → tu { D with nx := fun σ2 H2 => Pv (i + 1) σ2 H2 ∧ H2 p = some (.lst xs), ct := fun σ2 H2 => Pv (i + 1) σ2 H2 ∧ H2 p = some (.lst xs), bk := D.nx } (σ'.set j (some x)) H') (hd : ∀ σ' H', Pv xs.length σ' H' → D.nx σ' H') : tFor (iList K tl) (gName j) tu D σ H :=
  h H eB _ fun p H1 hp1 e h1 => ⟨p, rfl, ⟨xs, sq_of h1⟩, for_it walk_list (fun i σ' H' => Pv i σ' H' ∧ H' p = some (.lst xs)) ⟨h0 H1 e, h1⟩ (fun i σ' H' _ z => sq_of z.2) (fun i x σ' H2 H3 _ z y => by
    obtain ⟨rfl, hx⟩ := y
    exact hs p i x σ' _ (hq p hp1) hx z.1 z.2) fun σ' H' z => hd σ' H' z.1⟩
end
end KSq
-- KSame
/-! isinstance, is None, not xs, an expression over a locked dict -/
namespace KSame
open PySem PySem.Spec PyProof.Rows L2 Evl KSq
def rIsN : R2 := fun x y H Q => y = .non ∧ Q (.bl (decide (x = .non))) H
theorem op_isNon {X : Cx} : OpR X (compareOp .Is) rIsN := op_isN
section
variable {K : PySem.W.Frag} {σ : L2.St} {H : Hp} {ta te : TE} {x : V}
theorem rv_isN : RV rIsN x .non H (.bl (decide (x = .non))) := fun H1 _ _ q => ⟨rfl, q H1 (Ex.refl H1)⟩
theorem rc_isi {A B : String} {r : Bool} (ty : ∀ H1, Ex H H1 → TyX K H1 x (.type A)) (h : kitB A B = some r) : RC (rIsi K) [x, .ty B] H (.bl r) := fun H1 e _ q => ⟨x, .ty B, .type A, .type B, r, rfl, .ty B, ty H1 e, kit_ty h, q H1 (Ex.refl H1)⟩
def tNotE (K : PySem.W.Frag) (ta : TE) : TE := fun σ H Q => ta σ H fun x H1 => ∃ k, TruV K x H1 k ∧ Q (.bl (!k)) H1
theorem pe_notE {X : Cx} {a : Expr} {pos : Pos} (ha : PE X a ta) : PE X (.UnaryOp .Not a pos) (tNotE X.K ta) := ⟨fun pins s σ H Q I h => UnaryOp_ (thn (ha.run pins s σ H _ I h) fun v s1 ⟨x, H1, I1, r1, k, hk, q⟩ =>
  not_of (thn (tru_ok pins s1 σ H1 x v (fun b H2 => Q (.bl (!b)) H2) I1 r1 ⟨k, hk, q⟩) fun b s2 ⟨H2, I2, q2⟩ => ⟨.bl (!b), H2, I2, rfl, q2⟩))⟩
/-- not of a new list -/
theorem ev_notL {xs : List V} (h : EvL ta σ H xs) : Ev (tNotE K ta) σ H (.bl xs.isEmpty) := fun H1 e Q q => h H1 e _ fun p H2 _ e2 h2 => ⟨!xs.isEmpty, .inl ⟨xs, sq_of h2, rfl⟩, by rw [Bool.not_not]; exact q H2 e2⟩
theorem ev_lock {d : Addr} {u : HO} {v : V} (h : H d = some u) (mu : Mut (some u)) (hv : ∀ od H1, Ex H H1 → H1 d = some u → Ev te σ (upd H1 d (.frz od u)) v) : Ev (tLockE te) σ H v := fun H1 e Q q =>
  ⟨d, u, e _ _ h, mu, fun od => hv od H1 e (e _ _ h) _ (Ex.refl _) _ fun H2 e2 => ⟨e2 _ _ upd_same, q _ fun b o hb => by
    by_cases z : b = d
    · rw [z, e _ _ h] at hb
      rw [z, upd_same, hb]
    · rw [upd_ne z]
      exact e2 _ _ (by rw [upd_ne z]; exact hb)⟩⟩
end
end KSame
-- KSame2
namespace KSame
open PySem PySem.Spec PyProof.Rows L2 Evl KSq
section
variable {K : PySem.W.Frag} {σ : L2.St} {H : Hp} {ta te td ty tp : TE} {t : TT} {x : V} {j : Nat} {vs : List Nat}
theorem ev_isi {A B : String} {r : Bool} (ha : Ev ta σ H x) (ty : ∀ H1, Ex H H1 → TyX K H1 x (.type A)) (h : kitB A B = some r) : Ev (tCB (rIsi K) (tCons ta (tCons (tC (.ty B)) tNil))) σ H (.bl r) := ev_cb (ea_cons ha (ea_cons ev_c ea_nil)) (rc_isi ty h)
theorem ev_isiT2 {A B C : String} (ha : Ev ta σ H x) (ty : ∀ H1, Ex H H1 → TyX K H1 x (.type A)) (h : kitB A B = some true ∨ (kitB A B = some false ∧ kitB A C = some true)) : Ev (tCB (rIsiT K) (tCons ta (tCons (tTup (tCons (tC (.ty B)) (tCons (tC (.ty C)) tNil))) tNil))) σ H (.bl true) := fun H1 e Q q =>
  ha H1 e _ fun H2 e2 => ⟨by show 2 ≤ sizeLine; decide, fun p hp => ⟨x, p, [.ty B, .ty C], .type A, [.type B, .type C], true, rfl, upd_same, .cons (.ty B) (.cons (.ty C) .nil), ty _ ((e.trans e2).trans (Ex.new hp)), by
    rcases h with h | ⟨h1, h2⟩
    · exact kitAny_cons (kit_ty h) (fun z => nomatch z) fun _ => rfl
    · exact kitAny_cons (kit_ty h1) (fun _ => kitAny_cons (kit_ty h2) (fun z => nomatch z) fun _ => rfl) (fun z => nomatch z), q _ (e2.trans (Ex.new hp))⟩⟩
theorem ev_lenSq {p : Addr} {xs : List V} (ha : Ev ta σ H (.ref p)) (h : Sq K H p xs) : Ev (tCB (rLenS K) (tCons ta tNil)) σ H (.int (xs.length : Int)) := fun H1 e Q q =>
  ha H1 e _ fun H2 e2 => ⟨p, xs, rfl, ex_sq (e.trans e2) h, q H2 e2⟩
def rLenD : List V → Hp → VK → Prop := fun xs H Q => ∃ a kvs, xs = [V.ref a] ∧ H a = some (.dK kvs) ∧ Q (.int kvs.length) H
theorem call_lenDk {X : Cx} : CallR X (.builtin "len") rLenD := call_lenD
theorem ev_lenDk {p : Addr} {kvs : List (Key × V)} (ha : Ev ta σ H (.ref p)) (h : H p = some (.dK kvs)) : Ev (tCB rLenD (tCons ta tNil)) σ H (.int (kvs.length : Int)) := fun H1 e Q q =>
  ha H1 e _ fun H2 e2 => ⟨p, kvs, rfl, e2 _ _ (e _ _ h), q H2 e2⟩
theorem rv_ixSq {p : Addr} {xs : List V} {i : Int} {v : V} (h : Sq K H p xs) (ha : atI xs i = some v) : RV (rIx K) (.ref p) (.int i) H v := fun H1 e _ q => by
  rcases h with h | h
  · exact .inl ⟨p, xs, i, v, rfl, rfl, ex_l e h, ha, q H1 (Ex.refl H1)⟩
  · exact .inr (.inl ⟨p, xs, i, v, rfl, rfl, ex_t e h, ha, q H1 (Ex.refl H1)⟩)
theorem given_none {n : Nat} {f : Nat → Bool} {v : Nat → V} (h : ∀ i, i < n → f i = false) : given n f v = [] := by
  unfold given
  rw [List.filter_eq_nil_iff.mpr fun i hi => by rw [h i (List.mem_range.mp hi)]; decide]
  rfl
theorem ev_dgetR {a : Addr} {kvs : List (Key × V)} {k : Key} {v : V} (hd : Ev td σ H (.ref a)) (hk : Ev ty σ H (kV k)) (h : Rd H a (.dK kvs)) (hv : valV kvs k = some v) : Ev (tDGet td ty) σ H v := fun H1 e Q q =>
  hd H1 e _ fun H2 e2 => hk H2 (e.trans e2) _ fun H3 e3 => ⟨a, v, rfl, .inl ⟨kvs, k, ex_rd ((e.trans e2).trans e3) h, rfl, hv.symm⟩, q H3 (e2.trans e3)⟩
theorem ev_dnotin {a : Addr} {kvs : List (Key × V)} {k : Key} (hk : Ev ty σ H (kV k)) (hd : Ev td σ H (.ref a)) (h : Rd H a (.dK kvs)) : Ev (tDNotIn ty td) σ H (.bl (!(valV kvs k).isSome)) := fun H1 e Q q =>
  hk H1 e _ fun H2 e2 => hd H2 (e.trans e2) _ fun H3 e3 => ⟨a, _, rfl, .inl ⟨kvs, k, ex_rd ((e.trans e2).trans e3) h, rfl, rfl⟩, q H3 (e2.trans e3)⟩
/-- a list comprehension over the keys of a locked dict -/
theorem el_lcK {d : Addr} {o : Obj} {kvs : List (Key × V)} (f : Nat → Bool) (v : Nat → V) (h : Ev td σ H (.ref d)) (hd : H d = some (.frz o (.dK kvs))) (hz : kvs.length ≤ 40000) (hw : ∀ x, wipe ((wipe σ vs).set j (some x)) vs = wipe σ vs)
    (ht : ∀ (i : Nat) (k : Key) (u : V) H1, Ex H H1 → kvs[i]? = some (k, u) → EvT t ((wipe σ vs).set j (some (kV k))) H1 (f i)) (he : ∀ (i : Nat) (k : Key) (u : V) H1, Ex H H1 → kvs[i]? = some (k, u) → f i = true → Ev te ((wipe σ vs).set j (some (kV k))) H1 (v i)) :
    EvL (tLc (iKeys td) (gName j) t te vs) σ H (given kvs.length f v) := fun H0 e Q q => h H0 e _ fun H1 e1 => ⟨d, o, rfl, .inl ⟨kvs, e1 _ _ (e _ _ hd), fun Dl hD =>
    lc_it walk_keys (Cw H1 f v Dl) ⟨hD, Ex.new hD, upd_same⟩ (fun i H' _ p => p.2.1 _ _ (e1 _ _ (e _ _ hd))) (fun i x H2 H3 hi p y => by
      obtain ⟨rfl, k, u, hx, rfl⟩ := y
      exact ⟨hw _, cw_turn p (by omega) (ht i k u H1 (e.trans e1) hx) (fun hf => he i k u H1 (e.trans e1) hx hf)⟩)
    (fun H' p => q Dl H' (fresh_back e1 p.1) (e1.trans p.2.1) p.2.2)⟩⟩
theorem valV_mem {κ : Type} [DecidableEq κ] : ∀ {kvs : List (κ × V)} {k : κ} {u : V}, (k, u) ∈ kvs → ∃ w, valV kvs k = some w ∧ (k, w) ∈ kvs
  | p :: r, k, u, h => by
    by_cases e : p.1 = k
    · exact ⟨p.2, valV_pos e, by rw [← e]; exact List.mem_cons_self⟩
    · have h2 : (k, u) ∈ r := (List.mem_cons.mp h).elim (fun z => absurd (by rw [← z]) e) id
      obtain ⟨w, h3, h4⟩ := valV_mem h2
      exact ⟨w, (valV_neg e).trans h3, List.mem_cons_of_mem _ h4⟩
end
end KSame
-- KDraw2
namespace KD
open PySem PySem.Spec PyProof.Rows L2 Evl KEv
section
variable {K : PySem.W.Frag} {σ : L2.St} {B H : Hp} {d : Addr} {ta tb te td tc : TE} {x : V} {R Rb : V → Hp → Prop} {r : R2} {E : XK}
/-- the left one pure -/
theorem eg_opV (ha : Ev ta σ B x) (hb : EvG tb σ B d Rb) (hr : ∀ y B2, Ex B B2 → Rb y B2 → ∃ z, RV r x y B2 z ∧ R z B2) : EvG (tOp r ta tb) σ B d R :=
  eg_op (Rb := fun _ => Rb) (eg_lift ha) (fun u B1 _ hu => by rw [hu.2]; exact hb) fun u y B1 B2 _ hu e2 hy => by
    rw [hu.1]
    rw [hu.2] at e2
    exact hr y B2 e2 hy
/-- the right one pure -/
theorem eg_opW {y : V} (ha : EvG ta σ B d Rb) (hb : ∀ u B1, Ex B B1 → Rb u B1 → Ev tb σ B1 y) (hr : ∀ u B1, Ex B B1 → Rb u B1 → ∃ z, RV r u y B1 z ∧ R z B1) : EvG (tOp r ta tb) σ B d R := fun H s Q q =>
  ha H s _ fun u B1 H1 e1 s1 r1 => hb u B1 e1 r1 H1 s1.ex _ fun H2 e2 => by
    obtain ⟨z, hz, rz⟩ := hr u B1 e1 r1
    exact hz H2 (s1.ex.trans e2) Q fun H3 e3 => q z B1 H3 e1 ((s1.mono e2).mono e3) rz
/-- a drawn number -/
theorem eg_takeN {m : Int} (hd : Ev td σ B (.ref d)) (hm : Ev te σ B (.int m)) (h0 : 0 < m) : EvG (tCall spTake [] E (tCons td (tCons te tNil))) σ B d fun v _ => ∃ n : Nat, v = .int (n : Int) ∧ (n : Int) < m :=
  (eg_take hd hm h0).imp fun v B' _ h => by
    obtain ⟨⟨r, rfl, r0, r1⟩, _⟩ := h
    exact ⟨r.toNat, by rw [Int.toNat_of_nonneg r0], by omega⟩
/-- a drawn sign of a text -/
theorem eg_signN {w : Str} {n : Int} (hw : Ev ta σ B (.str w)) (hi : EvG tb σ B d fun v _ => ∃ k : Nat, v = .int (k : Int) ∧ (k : Int) < n) (hn : n ≤ (w.length : Int)) (hl : w.length ≤ 100000) : EvG (tOp rIxS ta tb) σ B d fun v _ => ∃ c, v = .str ⟨#[c]⟩ ∧ c ∈ TL.tl w :=
  eg_opV hw hi fun y B2 _ hy => by
    obtain ⟨k, rfl, hk⟩ := hy
    have hr : k < w.cps.toList.length := by
      have : w.length = w.cps.toList.length := by simp [Str.length]
      omega
    obtain ⟨c, hc⟩ : ∃ c, w.cps.toList[k]? = some c := ⟨_, List.getElem?_eq_getElem hr⟩
    exact ⟨_, rv_ixS hl (atI_nat hc), c, rfl, List.mem_of_getElem? hc⟩
/-- a drawn item of a list or a tuple that stands -/
theorem eg_itemL {a : Addr} {xs : List V} {n : Int} (hw : Ev ta σ B (.ref a)) (hx : SqL K B a xs) (hi : EvG tb σ B d fun v _ => ∃ k : Nat, v = .int (k : Int) ∧ (k : Int) < n) (hn : n ≤ (xs.length : Int)) : EvG (tOp (rIxL K) ta tb) σ B d fun v _ => v ∈ xs :=
  eg_opV hw hi fun y B2 e hy => by
    obtain ⟨k, rfl, hk⟩ := hy
    have hr : k < xs.length := by omega
    have hc : xs[k]? = some xs[k] := List.getElem?_eq_getElem hr
    exact ⟨_, rv_ixL (ex_l e hx) (atI_nat hc), List.mem_of_getElem? hc⟩
/-- a pure expression's value, nothing drawn -/
theorem eg_ev {v : V} (h : Ev te σ B v) : EvG te σ B d fun u _ => u = v := (eg_lift h).imp fun _ _ _ h => h.1
theorem EvG.sd {R' : V → Hp → Prop} (h : EvG te σ B d R) (hi : ∀ v B', R v B' → R' v B') : EvG te σ B d R' := h.imp fun v B' _ => hi v B'
end
end KD
-- KDraw3
/-! lists that are drawn -/
namespace KD
open PySem PySem.Spec PyProof.Rows L2 Evl KEv KSq
section
variable {K : PySem.W.Frag} {σ : L2.St} {B H : Hp} {d : Addr} {ta tr : TA} {tb te td tc : TE} {x v : V} {R Rb : V → Hp → Prop} {r : R2} {E : XK} {j : Nat} {vs : List Nat}
theorem ega_consV {Rr : List V → Hp → Prop} (h : Ev te σ B v) (hr : EvGA tr σ B d Rr) : EvGA (tCons te tr) σ B d fun us B' => ∃ r, us = v :: r ∧ Rr r B' :=
  ega_cons (Rr := fun _ => Rr) (eg_lift h) (fun u B1 _ hu => by rw [hu.2]; exact hr) fun u us B1 B2 _ hu _ hr => ⟨us, by rw [hu.1], hr⟩
theorem ega_one (h : EvG te σ B d R) : EvGA (tCons te tNil) σ B d fun us B' => ∃ v, us = [v] ∧ R v B' :=
  ega_cons (Rr := fun v us B' => us = [] ∧ R v B') h (fun u B1 e1 hu => fun H s Q q => q [] B1 H (Ex.refl _) s ⟨rfl, hu⟩) fun u us B1 B2 _ hu _ hr => ⟨u, by rw [hr.1], hr.2⟩
theorem ega_sd {Rs Rs' : List V → Hp → Prop} (h : EvGA ta σ B d Rs) (hi : ∀ us B', Ex B B' → Rs us B' → Rs' us B') : EvGA ta σ B d Rs' := fun H s Q q => h H s Q fun us B' H' e s' r => q us B' H' e s' (hi us B' e r)
/-- [a, b, ..] -/
theorem eg_lst {Rs : List V → Hp → Prop} (h : EvGA ta σ B d Rs) (hl : ∀ us B', Rs us B' → us.length ≤ 100000) : EvG (tLst ta) σ B d fun u B' => ∃ p us B1, u = .ref p ∧ B p = none ∧ B1 p = none ∧ Ex B B1 ∧ B' = upd B1 p (.lst us) ∧ Rs us B1 := fun H s Q q =>
  h H s _ fun us B1 H1 e1 s1 r1 => ⟨sz_of (hl us B1 r1), fun p hp => by
    have nb : B1 p = none := fresh_back s1.ex hp
    have nd : p ≠ d := s1.ne hp
    have s2 : Sd (upd B1 p (.lst us)) d (upd H1 p (.lst us)) := (s1.mono (Ex.new hp)).known nd upd_same
    exact q (.ref p) (upd B1 p (.lst us)) _ (e1.trans (Ex.new nb)) s2 ⟨p, us, B1, rfl, fresh_back e1 nb, nb, e1, rfl, r1⟩⟩
/-- f(draws, e) -/
theorem eg_call1 {A : List V → Hp → Prop} {Rc : List V → V → Hp → Prop} {R1 : V → Hp → Prop} (hd : Ev td σ B (.ref d)) (h : EvG te σ B d R1) (ha : ∀ v B1 H1, Ex B B1 → R1 v B1 → Ex B1 H1 → A [v] H1) (hr : ∀ v u B1 B2, Ex B B1 → R1 v B1 → Ex B1 B2 → Rc [v] u B2 → R u B2) :
    EvG (tCall (spGen A Rc) [] E (tCons td (tCons te tNil))) σ B d R :=
  eg_call (Rs := fun us B' => ∃ v, us = [.ref d, v] ∧ R1 v B') (ega_sd (ega_consV hd (ega_one h)) fun us B' _ h => by
      obtain ⟨r, rfl, v, rfl, h⟩ := h
      exact ⟨v, rfl, h⟩) (fun us B1 H1 e1 h e2 => by
      obtain ⟨v, rfl, h⟩ := h
      exact ⟨[v], rfl, ha v B1 H1 e1 h e2⟩) fun rest B1 B2 u e1 h e2 hc => by
      obtain ⟨v, ev, h⟩ := h
      obtain rfl : rest = [v] := (List.cons.inj ev).2
      exact hr v u B1 B2 e1 h e2 hc
/-- f(draws) -/
theorem eg_call0 {A : List V → Hp → Prop} {Rc : List V → V → Hp → Prop} (hd : Ev td σ B (.ref d)) (ha : ∀ H1, Ex B H1 → A [] H1) (hr : ∀ u B2, Ex B B2 → Rc [] u B2 → R u B2) :
    EvG (tCall (spGen A Rc) [] E (tCons td tNil)) σ B d R :=
  eg_call (Rs := fun us B' => us = [.ref d] ∧ B' = B) (ega_lift (ea_cons hd ea_nil)) (fun us B1 H1 _ h e2 => ⟨[], h.1, ha H1 (by rw [← h.2]; exact e2)⟩) fun rest B1 B2 u _ h e2 hc => by
      obtain rfl : rest = [] := (List.cons.inj h.1).2
      exact hr u B2 (by rw [← h.2]; exact e2) hc
/-- [e for k in range(n)], each e drawn -/
theorem eg_lcR {n0 : Nat} {Kp : Addr → V → Hp → Prop} (h : EvGA ta σ B d fun us _ => ∃ n : Nat, us = [.int (n : Int)] ∧ n ≤ n0) (hn0 : n0 ≤ 40000) (hw : ∀ x, wipe ((wipe σ vs).set j (some x)) vs = wipe σ vs)
    (hk : ∀ L v B2 B3, Kp L v B2 → Ex B2 B3 → Kp L v B3) (hu : ∀ L v B2 o, Kp L v B2 → Kp L v (upd B2 L o))
    (he : ∀ (i : Nat) (L : Addr) B1, Ex B B1 → (∃ o, B1 L = some o) → EvG te ((wipe σ vs).set j (some (.int (i : Int)))) B1 d fun v B2 => Kp L v B2) :
    EvG (tLc (iRng1 ta) (gName j) tYes te vs) σ B d fun u B' => ∃ p xs, u = .ref p ∧ B p = none ∧ B' p = some (.lst xs) ∧ xs.length ≤ n0 ∧ ∀ x ∈ xs, Kp p x B' := fun H s Q q =>
  h H s _ fun us B1 H1 e1 s1 r1 => by
    obtain ⟨n, rfl, hn⟩ := r1
    refine ⟨(n : Int), rfl, by omega, by omega, fun L hL => ?_⟩
    have nb : B1 L = none := fresh_back s1.ex hL
    refine lc_range (lo := 0) (n := ((n : Int) - 0).toNat) (fun i H' => ∃ B2 acc, Ex B1 B2 ∧ Sd B2 d H' ∧ B2 L = some (.lst acc) ∧ acc.length = i ∧ ∀ x ∈ acc, Kp L x B2) ⟨upd B1 L (.lst []), [], Ex.new nb, (s1.mono (Ex.new hL)).known (s1.ne hL) upd_same, upd_same, rfl, fun x hx => absurd hx (by simp)⟩ (fun i H2 hi p => ?_) (fun H2 p => ?_)
    · obtain ⟨B2, acc, e2, s2, h2, hl, hx⟩ := p
      have e0 : (0 : Int) + (i : Int) = (i : Int) := Int.zero_add _
      rw [e0]
      refine ⟨hw _, ?_⟩
      show (fun b H3 => _) true H2
      simp only [if_true]
      refine he i L B2 (e1.trans e2) ⟨_, h2⟩ H2 s2 _ fun v B3 H3 e3 s3 r3 => ?_
      have h3 : B3 L = some (.lst acc) := e3 _ _ h2
      refine ⟨acc, s3.ex _ _ h3, sz_lt (by omega), upd B3 L (.lst (acc ++ [v])), acc ++ [v], (e2.trans e3).mut nb, s3.change h3, upd_same, by rw [List.length_append, hl]; rfl, fun x hx2 => ?_⟩
      rcases List.mem_append.mp hx2 with z | z
      · exact hu L x B3 _ (hk L x B2 B3 (hx x z) e3)
      · rw [List.mem_singleton.mp z]
        exact hu L v B3 _ r3
    · obtain ⟨B2, acc, e2, s2, h2, hl, hx⟩ := p
      exact q (.ref L) B2 H2 (e1.trans e2) s2 ⟨L, acc, rfl, fresh_back e1 nb, h2, by omega, hx⟩
end
end KD
-- KRep
/-! a text, so many times; more of what is drawn -/
namespace KEv
open PySem PySem.Spec PyProof.Rows L2 Evl
def rRepS : R2 := fun x y H Q => ∃ (a : Str) (n : Nat), x = .str a ∧ y = .int (n : Int) ∧ 1 ≤ n ∧ n ≤ 1000 ∧ a.length ≤ 1000 ∧ Q (.str (repS a n)) H
theorem repS_one (a : Str) : repS a 1 = a := by
  unfold repS
  simp
theorem fold_rep (c : Array Nat) : ∀ (n : Nat) (acc : Array Nat), (List.replicate n c).foldl (· ++ ·) acc = (acc.toList ++ (List.replicate n c.toList).flatten).toArray
  | 0, acc => by simp
  | n + 1, acc => by
    rw [List.replicate_succ, List.foldl_cons, fold_rep c n (acc ++ c), List.replicate_succ, List.flatten_cons]
    simp
theorem op_repS {X : Cx} : OpR X (binaryOp .Mult) rRepS := by
  intro pins s σ H x y v u Q I rx ry h
  obtain ⟨a, n, rfl, rfl, h1, h2, h3, q⟩ := h
  obtain ⟨t, rfl⟩ := rx
  obtain ⟨t2, rfl⟩ := ry
  have hm : a.length * n ≤ 1000 * 1000 := Nat.mul_le_mul h3 h2
  refine PySem.P.mul_str ?_ (fun _ _ => ?_) (fun _ _ => ?_) ?_
  · have z1 : decide ((n : Int) < -(2 ^ 63 : Int)) = false := decide_eq_false (by omega)
    have z2 : decide ((n : Int) ≥ 2 ^ 63) = false := decide_eq_false (by omega)
    rw [z1, z2]
    rfl
  · have : (a.length : Int) ≤ (2 ^ 63 - 1) / (n : Int) := by
      apply Int.le_ediv_of_mul_le (by omega)
      have : (a.length : Int) * (n : Int) = ((a.length * n : Nat) : Int) := by simp
      rw [this]
      omega
    omega
  · exact PyProof.Rows.short24 (by rw [Int.toNat_natCast]; omega)
  · rw [if_neg (by omega)]
    split
    · rename_i hz
      have e : repS a n = a := by
        rcases Bool.or_eq_true_iff.mp hz with z | z
        · have : n = 1 := by have := beq_iff_eq.mp z; omega
          rw [this, repS_one]
        · have z2 : a.length = 0 := beq_iff_eq.mp z
          have z3 : a.cps.toList = [] := List.length_eq_zero_iff.mp (by rw [Array.length_toList]; exact z2)
          unfold repS
          rw [z3]
          cases a with
          | mk c =>
            have : c = #[] := by
              have z4 : c.toList = [] := z3
              exact Array.toList_eq_nil_iff.mp z4
            subst this
            simp
      rw [e] at q
      exact ⟨.str a, H, I, ⟨t, rfl⟩, q⟩
    · have e : (⟨(List.replicate (n : Int).toNat a.cps).foldl (· ++ ·) #[]⟩ : Str) = repS a n := by
        rw [Int.toNat_natCast]
        unfold repS
        have z := fold_rep a.cps n #[]
        rw [z]
        simp
      rw [e]
      have hl : (repS a n).length = a.length * n := by
        rw [TL.len_tl]
        show (TL.tl (repS a n)).length = _
        unfold repS TL.tl
        simp [Str.length, Nat.mul_comm]
      exact ⟨Nat.le_trans (by rw [hl]; exact hm) (by decide), .str (repS a n), H, I.tok _, ⟨_, rfl⟩, q⟩
end KEv
namespace KD
open PySem PySem.Spec PyProof.Rows L2 Evl KEv KSq
theorem rv_repS {a : Str} {n : Nat} {H : Hp} (h1 : 1 ≤ n) (h2 : n ≤ 1000) (h3 : a.length ≤ 1000) : RV rRepS (.str a) (.int (n : Int)) H (.str (repS a n)) := fun H1 _ _ q => ⟨a, n, rfl, rfl, h1, h2, h3, q H1 (Ex.refl H1)⟩
/-- truth of a value -/
def tTru (K : PySem.W.Frag) (ta : TE) : TT := fun σ H Q => ta σ H fun x H' => ∃ k, TruV K x H' k ∧ Q k H'
theorem pt_tru {X : Cx} {a : Expr} {ta : TE} (ha : PE X a ta) (he : ∀ whole, isTrue a X.env whole = (do let v ← whole; standAt a.pos; holding [v] (truthy v)) := by intro _; rfl) : PT X a (tTru X.K ta) := pt_truth ha he
section
variable {K : PySem.W.Frag} {σ : L2.St} {B H : Hp} {d : Addr} {ta tr : TA} {tb te td tc ti : TE} {tl th : TO} {x v : V} {R R' Rb : V → Hp → Prop} {r : R2} {E : XK} {j : Nat} {vs : List Nat} {D : Ends} {tz tu : TS}
theorem et_truL {a : Addr} {xs : List V} (h : Ev te σ H (.ref a)) (hx : SqL K H a xs) : EvT (tTru K te) σ H (!xs.isEmpty) := fun H1 e Q q => h H1 e _ fun H2 e2 => ⟨!xs.isEmpty, .inl ⟨xs, ex_l (e.trans e2) hx, rfl⟩, q H2 e2⟩
/-- a slice of a drawn text, the bounds pure -/
theorem eg_slS {lo hi : Option Int} (h : EvG te σ B d R) (h1 : ∀ B1, EvO tl σ B1 lo) (h2 : ∀ B1, EvO th σ B1 hi) (hr : ∀ v B1, R v B1 → ∃ x : Str, v = .str x ∧ x.length ≤ 1000000 ∧ R' (.str (cutS x lo hi)) B1) : EvG (tSl rSlS te tl th) σ B d R' := fun H s Q q =>
  h H s _ fun v B1 H1 e1 s1 r1 => h1 B1 H1 s1.ex _ fun H2 e2 => h2 B1 H2 (s1.ex.trans e2) _ fun H3 e3 => by
    obtain ⟨x, rfl, hx, r2⟩ := hr v B1 r1
    exact ⟨x, rfl, Nat.le_trans hx (by decide), q _ B1 H3 e1 ((s1.mono e2).mono e3) r2⟩
/-- a drawn item of a list that is made on the way -/
theorem eg_itemN {n : Int} {Pv : V → Prop} (h : EvG te σ B d fun u B' => ∃ p us, u = .ref p ∧ B' p = some (.lst us) ∧ n ≤ (us.length : Int) ∧ ∀ v ∈ us, Pv v) (hi : ∀ B1, EvG ti σ B1 d fun v _ => ∃ k : Nat, v = .int (k : Int) ∧ (k : Int) < n) : EvG (tOp (rIxL K) te ti) σ B d fun v _ => Pv v :=
  eg_op (Rb := fun _ v _ => ∃ k : Nat, v = .int (k : Int) ∧ (k : Int) < n) h (fun u B1 _ _ => hi B1) fun u y B1 B2 _ hu e2 hy => by
    obtain ⟨p, us, rfl, hp, hn, hv⟩ := hu
    obtain ⟨k, rfl, hk⟩ := hy
    have hr : k < us.length := by omega
    have hc : us[k]? = some us[k] := List.getElem?_eq_getElem hr
    exact ⟨_, rv_ixL (sq_of (e2 _ _ hp)) (atI_nat hc), hv _ (List.mem_of_getElem? hc)⟩
/-- xs.append(e), e drawn -/
theorem g_app {l : Addr} {xs : List V} (hl : B l = some (.lst xs)) (ha : ∀ B1, Ev tb σ B1 (.ref l)) (h : EvG te σ B d R) (hz : xs.length < 100000) (s : Sd B d H) (k : ∀ v B1 H1, Ex B B1 → R v B1 → Sd (upd B1 l (.lst (xs ++ [v]))) d H1 → D.nx σ H1) : tDrop (tBM K "list" rAppend tb (tCons te tNil)) D σ H :=
  ha B H s.ex _ fun H1 e1 => ⟨Or.inl ⟨rfl, xs, sq_of (e1 _ _ (s.ex _ _ hl))⟩, h H1 (s.mono e1) _ fun v B2 H2 e2 s2 r2 => ⟨l, xs, v, rfl, rfl, s2.ex _ _ (e2 _ _ hl), sz_lt hz, k v B2 _ e2 r2 (s2.change (e2 _ _ hl))⟩⟩
theorem gq_app {l : Addr} {xs : List V} (hl : B l = some (.lst xs)) (ha : ∀ B1, Ev tb σ B1 (.ref l)) (h : EvG te σ B d R) (hz : xs.length < 100000) (s : Sd B d H) (k : ∀ v B1 H1, Ex B B1 → R v B1 → Sd (upd B1 l (.lst (xs ++ [v]))) d H1 → tz D σ H1) : tSeq (tDrop (tBM K "list" rAppend tb (tCons te tNil))) tz D σ H :=
  g_app (D := { D with nx := tz D }) hl ha h hz s k
/-- for k in range(n), n drawn: the turns draw -/
theorem gq_range {tn : TE} {m : Nat} (h : EvG tn σ B d fun v _ => ∃ n : Nat, v = .int (n : Int) ∧ n ≤ m) (s : Sd B d H) (hm : m ≤ 100000) (Pv : Nat → L2.St → Hp → Prop) (h0 : ∀ B1 H1, Ex B B1 → Sd B1 d H1 → Pv 0 σ H1)
    (hs : ∀ (i : Nat) σ' H', i < m → Pv i σ' H' → tu { D with nx := Pv (i + 1), ct := Pv (i + 1), bk := tz D } (σ'.set j (some (.int (i : Int)))) H') (hd : ∀ n σ' H', n ≤ m → Pv n σ' H' → tz D σ' H') : tSeq (tFor (iRng1 (tCons tn tNil)) (gName j) tu) tz D σ H :=
  h H s _ fun v B1 H1 e1 s1 r1 => by
    obtain ⟨n, rfl, hn⟩ := r1
    exact ⟨(n : Int), rfl, by omega, by omega, for_range (lo := 0) (n := (n : Int).toNat) (D := { D with nx := tz D }) (g := gName j) (tb := tu) Pv (h0 B1 H1 e1 s1) (fun i σ' H' hi p => by
      have e0 : (0 : Int) + (i : Int) = (i : Int) := Int.zero_add _
      show tu _ (σ'.set j (some (.int ((0 : Int) + (i : Int))))) H'
      rw [e0]
      exact hs i σ' H' (by omega) p) fun σ' H' p => hd _ σ' H' (by omega) p⟩
end
end KD
-- D1
namespace K00
open PySem PySem.Spec PyProof.Rows L2 Evl KEv TL
def topS (i : Nat) : Stmt := PySem.Challenge.pw_rulesonrules_k00_names_letters_and_texts.main.body.getD i (.Pass ⟨0, 0, 0, 0⟩)
theorem relS {x : Str} {t : Tok} : RelV (.str x) (.str x t) := ⟨t, rfl⟩
/-- a def of the text as it stands: its body, its name, how it binds -/
structure DefAt (K : PySem.W.Frag) (mg : Str → Option Value) (i : Nat) (x : Str) (ps : List Str) (f : Addr) (fd : FuncData) : Prop where
  F : Fun K x x (topS i) f fd
  g : mg x = some (.ref f)
  b : Binds K fd ps []
def small : Str := "abcdefghijklmnopqrstuvwxyz"
def capitals : Str := "ABCDEFGHIJKLMNOPQRSTUVWXYZ"
def digits : Str := "0123456789"
/-- the module's names that the defs read -/
structure Nm (mg : Str → Option Value) : Prop where
  len : mg "len" = none
  SMALL : ∃ t, mg "SMALL" = some (.str small t)
  DIGITS : ∃ t, mg "DIGITS" = some (.str digits t)
  CAPITALS : ∃ t, mg "CAPITALS" = some (.str capitals t)
section
variable {P : Program} {w : World} {K : PySem.W.Frag} {mg : Str → Option Value} {base : Heap}
/-! is_name -/
/-- the first one is among these -/
def headIn (s : List Nat) : List Nat → Bool
  | [] => false
  | c :: _ => decide (c ∈ s)
def nameB (l : List Nat) : Bool := decide (1 ≤ l.length) && decide (l.length ≤ 24) && headIn (tl small) l && l.all fun c => decide (c ∈ tl small) || decide (c ∈ tl digits)
def spIsName : Sp := fun vs H Q _ => ∃ x : Str, vs = [.str x] ∧ x.length ≤ 100000 ∧ RetV (.bl (nameB (tl x))) H Q
theorem tl_ix {x : Str} {i : Nat} {c : Nat} (h : x.cps[i]? = some c) : (tl x)[i]? = some c := by
  rw [← h]
  exact Array.getElem?_toList
theorem tl_size (x : Str) : x.cps.size = (tl x).length := by simp [tl]
theorem all_take {p : Nat → Bool} {l : List Nat} {i c : Nat} (h : l[i]? = some c) : (l.take (i + 1)).all p = ((l.take i).all p && p c) := by
  rw [List.take_add_one, h, List.all_append]
  simp
theorem all_not {p : Nat → Bool} {l : List Nat} {i c : Nat} (h : l[i]? = some c) (hp : p c = false) : l.all p = false := by
  apply Bool.eq_false_iff.mpr
  intro z
  rw [List.all_eq_true] at z
  rw [z c (List.mem_of_getElem? h)] at hp
  cases hp
theorem scIsName : FnScope ["text", "sign"] ["text"] (defScope (topS 4)) := ⟨rfl, rfl, rfl, by decide +kernel, rfl, by decide +kernel, by decide +kernel⟩
theorem ok_is_name {f : Addr} {fd : FuncData} (D : DefAt K mg 4 "is_name" ["text"] f fd) (N : Nm mg) : FnOk P w K mg base CX0 1 f fd ["text"] spIsName := by
  obtain ⟨t1, gS⟩ := N.SMALL
  obtain ⟨t2, gD⟩ := N.DIGITS
  refine D.F.ok scIsName (fun vs H Q E h => ?_) (fun cdv A outer s H vs Q E hr h => ?_)
  · obtain ⟨x, rfl, _⟩ := h
    rfl
  · obtain ⟨x, rfl, hl, k⟩ := h
    refine ⟨_, pss_cons (ps_if (PW.pt (pw_or (pt_not (pt_chain op_le op_le pe_int (pe_callB call_lenT (by rfl) N.len PySem.boot_len (pa_cons (pv 0) pa_nil)) pe_int))
        (pw_or1 (pt_cmpR op_niS (pe_ix ix_str (pv 0) pe_int (fun _ _ => rfl)) (pe_glob rfl gS relS) rfl)))) (pss_one (ps_ret pe_bl)) pss_nil)
      (pss_cons (ps_for PassesOwn.never rfl (pi_str (pv 0)) (pg_name (i := 1) scIsName.nd rfl (.inl rfl))
        (pss_one (ps_if (PW.pt (pw_and (pt_cmpR op_niS (pv 1) (pe_glob rfl gS relS) rfl) (pw_and1 (pt_cmpR op_niS (pv 1) (pe_glob rfl gD relS) rfl)))) (pss_one (ps_ret pe_bl)) pss_nil)))
      (pss_one (ps_ret pe_bl))), ?_⟩
    have el : (x.length : Int) = ((tl x).length : Int) := by rw [len_tl]
    -- if not 1 <= len(text) <= 24 or text[0] not in SMALL
    refine q_when (b := !(decide (1 ≤ (tl x).length) && decide ((tl x).length ≤ 24) && headIn (tl small) (tl x))) ?_ (fun hb H1 e1 => ?_) (fun hb H1 e1 => ?_)
    · refine et_is (et_or (et_not (et_chain ev_c (ev_lenT (a := x) (ev_var rfl) (by omega)) rv_I0 (fun _ => ev_c) (fun _ => rv_I0))) (b := !headIn (tl small) (tl x)) (fun h1 => ?_)) ?_
      · rw [Bool.not_eq_false', Bool.and_eq_true, decide_eq_true_eq] at h1
        cases ex : tl x with
        | nil =>
          rw [el, ex] at h1
          exact absurd h1.1 (by decide)
        | cons c r => exact et_test (ev_op (ev_op (ev_var rfl) ev_c (rv_ixS hl (c := c) (by rw [show x.cps.toList = c :: r from ex]; exact atI_nat (j := 0) rfl))) ev_c rv_niS)
      · rw [el]
        have h1 : decide ((1 : Int) ≤ ((tl x).length : Int)) = decide (1 ≤ (tl x).length) := decide_eq_decide.mpr (by omega)
        have h2 : decide (((tl x).length : Int) ≤ 24) = decide ((tl x).length ≤ 24) := decide_eq_decide.mpr (by omega)
        rw [h1, h2]
        cases decide (1 ≤ (tl x).length) <;> cases decide ((tl x).length ≤ 24) <;> rfl
    · refine s_ret ev_c fun H2 e2 => ?_
      have hn : nameB (tl x) = false := by
        unfold nameB
        rw [Bool.not_eq_true'] at hb
        rw [hb]
        rfl
      rw [hn] at k
      exact k H2 (e1.trans e2)
    · rw [Bool.not_eq_false'] at hb
      refine q_forS (x := x) (ev_var rfl) (fun i σ H2 => (∃ y, σ = [some (.str x), y]) ∧ Ex H H2 ∧ ((tl x).take i).all (fun c => decide (c ∈ tl small) || decide (c ∈ tl digits)) = true) (fun H2 e2 => ⟨⟨_, rfl⟩, e1.trans e2, rfl⟩) (fun i c σ H2 hc p => ?_) (fun σ H2 p => ?_)
      · obtain ⟨⟨y, rfl⟩, e2, ha⟩ := p
        have hc' := tl_ix hc
        refine s_when (b := !decide (c ∈ tl small) && !decide (c ∈ tl digits)) (et_and (et_test (ev_op (ev_var rfl) ev_c rv_niS)) fun _ => et_test (ev_op (ev_var rfl) ev_c rv_niS)) (fun h1 H3 e3 => ?_) (fun h1 H3 e3 => ?_)
        · refine s_ret ev_c fun H4 e4 => ?_
          have hn : nameB (tl x) = false := by
            unfold nameB
            rw [all_not hc' (by cases h5 : decide (c ∈ tl small) <;> cases h6 : decide (c ∈ tl digits) <;> simp_all), Bool.and_false]
          rw [hn] at k
          exact k H4 ((e2.trans e3).trans e4)
        · refine ⟨⟨_, rfl⟩, e2.trans e3, ?_⟩
          rw [all_take hc', ha]
          cases h5 : decide (c ∈ tl small) <;> cases h6 : decide (c ∈ tl digits) <;> simp_all
      · obtain ⟨⟨y, rfl⟩, e2, ha⟩ := p
        refine s_ret ev_c fun H4 e4 => ?_
        have hn : nameB (tl x) = true := by
          unfold nameB
          rw [tl_size, List.take_length] at ha
          rw [hb, ha]
          rfl
        rw [hn] at k
        exact k H4 (e2.trans e4)
end
end K00
-- D2
namespace K00
open PySem PySem.Spec PyProof.Rows L2 Evl KEv TL
section
variable {P : Program} {w : World} {K : PySem.W.Frag} {mg : Str → Option Value} {base : Heap}
/-! is_letter -/
theorem tl_cut1 (x : Str) : tl (cutS x (some 1) none) = (tl x).drop 1 := by
  show (List.take (HT.sIx x.length x.length none - HT.sIx x.length 0 (some 1)) (List.drop (HT.sIx x.length 0 (some 1)) x.cps.toList)).toArray.toList = _
  rw [List.toList_toArray, show HT.sIx x.length 0 (some 1) = min 1 x.length from HT.sIx_nat x.length 0 1, HT.sIx_none]
  have e : x.length = x.cps.toList.length := by simp [Str.length]
  show List.take _ (List.drop (min 1 x.length) (tl x)) = _
  cases h : tl x with
  | nil => simp
  | cons c r =>
    have e2 : x.length = r.length + 1 := by rw [len_tl, h]; rfl
    rw [e2, show min 1 (r.length + 1) = 1 by omega]
    exact List.take_of_length_le (by simp)
/-- the second sign is this one -/
def secondIs (c : Nat) : List Nat → Bool
  | _ :: d :: _ => decide (d = c)
  | _ => false
def letterB (l : List Nat) (n : Int) : Bool := decide (2 ≤ l.length) && decide ((l.length : Int) ≤ n + 1) && headIn (tl capitals) l && !(secondIs 48 l && decide (2 < l.length)) && (l.drop 1).all fun c => decide (c ∈ tl digits)
def spIsLetter : Sp := fun vs H Q _ => ∃ (x : Str) (n : Int), vs = [.str x, .int n] ∧ x.length ≤ 100000 ∧ RetV (.bl (letterB (tl x) n)) H Q
theorem scIsLetter : FnScope ["text", "digits", "digit"] ["text", "digits"] (defScope (topS 5)) := ⟨rfl, rfl, rfl, by decide +kernel, rfl, by decide +kernel, by decide +kernel⟩
theorem zero_eq {c : Nat} : decide (V.str ⟨#[c]⟩ = V.str "0") = decide (c = 48) := by
  apply decide_eq_decide.mpr
  constructor
  · intro h
    have h2 := congrArg tl (V.str.inj h)
    have h3 : [c] = [48] := h2
    exact List.head_eq_of_cons_eq h3
  · intro h
    rw [h]
    rfl
theorem ok_is_letter {f : Addr} {fd : FuncData} (F : FunD K "is_letter" "is_letter" (defArgs (topS 5)) (defBody (topS 5)) (defScope (topS 5)) [.int 9] [] f fd) (N : Nm mg) : FnOk P w K mg base CX0 1 f fd ["text", "digits"] spIsLetter := by
  obtain ⟨t1, gC⟩ := N.CAPITALS
  obtain ⟨t2, gD⟩ := N.DIGITS
  refine F.ok scIsLetter (fun vs H Q E h => ?_) (fun cdv A outer s H vs Q E hr h => ?_)
  · obtain ⟨x, n, rfl, _⟩ := h
    rfl
  · obtain ⟨x, n, rfl, hl, k⟩ := h
    refine ⟨_, PSs.nox (pss_cons (ps_if (PW.pt (pw_or (pt_not (pt_chain op_le op_le pe_int (pe_callB call_lenT (by rfl) N.len PySem.boot_len (pa_cons (pv 0) pa_nil)) (pe_op op_add (pv 1) pe_int)))
        (pw_or1 (pt_cmpR op_niS (pe_ix ix_str (pv 0) pe_int (fun _ _ => rfl)) (pe_glob rfl gC relS) rfl)))) (pss_one (ps_ret pe_bl)) pss_nil)
      (pss_cons (ps_if (PW.pt (pw_and (pt_cmpR op_eq (pe_ix ix_str (pv 0) pe_int (fun _ _ => rfl)) pe_str (nomark _)) (pw_and1 (pt_cmpR op_gt (pe_callB call_lenT (by rfl) N.len PySem.boot_len (pa_cons (pv 0) pa_nil)) pe_int (nomark _))))) (pss_one (ps_ret pe_bl)) pss_nil)
      (pss_cons (ps_for PassesOwn.never rfl (pi_str (pe_slice sl_str (pv 0) (po_some pe_int) po_none)) (pg_name (i := 2) scIsLetter.nd rfl (.inl rfl))
        (pss_one (ps_if (pt_cmpR op_niS (pv 2) (pe_glob rfl gD relS) rfl) (pss_one (ps_ret pe_bl)) pss_nil)))
      (pss_one (ps_ret pe_bl))))), ?_⟩
    have el : (x.length : Int) = ((tl x).length : Int) := by rw [len_tl]
    refine q_when (b := !(decide (2 ≤ (tl x).length) && decide (((tl x).length : Int) ≤ n + 1) && headIn (tl capitals) (tl x))) ?_ (fun hb H1 e1 => ?_) (fun hb H1 e1 => ?_)
    · refine et_is (et_or (et_not (et_chain ev_c (ev_lenT (a := x) (ev_var rfl) (by omega)) rv_I0 (fun _ => ev_op (ev_var rfl) ev_c rv_I0) (fun _ => rv_I0))) (b := !headIn (tl capitals) (tl x)) (fun h1 => ?_)) ?_
      · rw [Bool.not_eq_false', Bool.and_eq_true, decide_eq_true_eq] at h1
        cases ex : tl x with
        | nil =>
          rw [el, ex] at h1
          exact absurd h1.1 (by decide)
        | cons c r => exact et_test (ev_op (ev_op (ev_var rfl) ev_c (rv_ixS hl (c := c) (by rw [show x.cps.toList = c :: r from ex]; exact atI_nat (j := 0) rfl))) ev_c rv_niS)
      · rw [el]
        have h1 : decide ((2 : Int) ≤ ((tl x).length : Int)) = decide (2 ≤ (tl x).length) := decide_eq_decide.mpr (by omega)
        rw [h1]
        cases decide (2 ≤ (tl x).length) <;> cases decide (((tl x).length : Int) ≤ n + 1) <;> rfl
    · refine s_ret ev_c fun H2 e2 => ?_
      have hn : letterB (tl x) n = false := by
        unfold letterB
        rw [Bool.not_eq_true'] at hb
        rw [hb]
        rfl
      rw [hn] at k
      exact k H2 (e1.trans e2)
    · rw [Bool.not_eq_false'] at hb
      have h2 : 2 ≤ (tl x).length := by
        rw [Bool.and_eq_true, Bool.and_eq_true, decide_eq_true_eq] at hb
        exact hb.1.1
      obtain ⟨c, d, r, ex⟩ : ∃ c d r, tl x = c :: d :: r := by
        cases ex : tl x with
        | nil => rw [ex] at h2; simp at h2
        | cons c r =>
          cases r with
          | nil => rw [ex] at h2; simp at h2
          | cons d r => exact ⟨c, d, r, rfl⟩
      refine q_when (b := secondIs 48 (tl x) && decide (2 < (tl x).length)) ?_ (fun hb2 H2 e2 => ?_) (fun hb2 H2 e2 => ?_)
      · refine et_is (et_and (et_test (ev_op (ev_op (ev_var rfl) ev_c (rv_ixS hl (c := d) (by rw [show x.cps.toList = c :: d :: r from ex]; exact atI_nat (j := 1) rfl))) ev_c (rv_eq rfl))) fun _ => et_test (ev_op (ev_lenT (a := x) (ev_var rfl) (by omega)) ev_c rv_I0)) ?_
        rw [zero_eq, el, ex]
        have h3 : decide ((2 : Int) < ((c :: d :: r).length : Int)) = decide (2 < (c :: d :: r).length) := decide_eq_decide.mpr (by omega)
        rw [h3]
        rfl
      · refine s_ret ev_c fun H3 e3 => ?_
        have hn : letterB (tl x) n = false := by
          unfold letterB
          rw [hb2, Bool.not_true, Bool.and_false, Bool.false_and]
        rw [hn] at k
        exact k H3 ((e1.trans e2).trans e3)
      · refine q_forS (x := cutS x (some 1) none) (ev_slS (ev_var rfl) (eo_some ev_c) eo_none (by omega)) (fun i σ H2 => (∃ y, σ = [some (.str x), some (.int n), y]) ∧ Ex H H2 ∧ (((tl x).drop 1).take i).all (fun c => decide (c ∈ tl digits)) = true) (fun H3 e3 => ⟨⟨_, rfl⟩, (e1.trans e2).trans e3, rfl⟩) (fun i c σ H2 hc p => ?_) (fun σ H2 p => ?_)
        · obtain ⟨⟨y, rfl⟩, e2, ha⟩ := p
          have hc' := tl_ix hc
          rw [tl_cut1] at hc'
          refine s_when (et_test (ev_op (ev_var rfl) ev_c rv_niS)) (fun h1 H3 e3 => ?_) (fun h1 H3 e3 => ?_)
          · refine s_ret ev_c fun H4 e4 => ?_
            have hn : letterB (tl x) n = false := by
              unfold letterB
              rw [all_not hc' (by simpa using h1), Bool.and_false]
            rw [hn] at k
            exact k H4 ((e2.trans e3).trans e4)
          · refine ⟨⟨_, rfl⟩, e2.trans e3, ?_⟩
            rw [all_take hc', ha]
            simpa using h1
        · obtain ⟨⟨y, rfl⟩, e2, ha⟩ := p
          refine s_ret ev_c fun H4 e4 => ?_
          have hn : letterB (tl x) n = true := by
            unfold letterB
            rw [tl_size, tl_cut1, List.take_length] at ha
            rw [hb, ha, hb2]
            rfl
          rw [hn] at k
          exact k H4 (e2.trans e4)
end
end K00
-- D3
namespace K00
open PySem PySem.Spec PyProof.Rows L2 Evl KEv TL
section
variable {P : Program} {w : World} {K : PySem.W.Frag} {mg : Str → Option Value} {base : Heap}
/-! the law's own is_name, is_letter -/
theorem small_not_digit : ∀ c ∈ tl small, c ∉ tl digits := by decide
theorem both_eq (c : Nat) : decide (c ∈ tl ("abcdefghijklmnopqrstuvwxyz0123456789" : Str)) = (decide (c ∈ tl small) || decide (c ∈ tl digits)) := by
  have e : tl ("abcdefghijklmnopqrstuvwxyz0123456789" : Str) = tl small ++ tl digits := by decide
  rw [e, ← Bool.decide_or]
  exact decide_eq_decide.mpr List.mem_append
theorem name_alt (l : List Nat) : nameB l = ((l.all fun c => decide (c ∈ tl small) || decide (c ∈ tl digits)) && (decide (1 ≤ l.length) && decide (l.length ≤ 24) && !headIn (tl digits) l)) := by
  unfold nameB
  cases l with
  | nil => rfl
  | cons c r =>
    simp only [headIn, List.all_cons]
    by_cases h1 : c ∈ tl small
    · have h2 := small_not_digit c h1
      simp [h1, h2, Bool.and_comm]
    · by_cases h2 : c ∈ tl digits <;> simp [h1, h2]
theorem scLIsName : FnScope ["text", "character"] ["text"] (defScope (topS 20)) := ⟨rfl, rfl, rfl, by decide +kernel, rfl, by decide +kernel, by decide +kernel⟩
theorem ok_law_is_name {f : Addr} {fd : FuncData} (D : DefAt K mg 20 "_law_is_name" ["text"] f fd) (N : Nm mg) : FnOk P w K mg base CX0 1 f fd ["text"] spIsName := by
  refine D.F.ok scLIsName (fun vs H Q E h => ?_) (fun cdv A outer s H vs Q E hr h => ?_)
  · obtain ⟨x, rfl, _⟩ := h
    rfl
  · obtain ⟨x, rfl, hl, k⟩ := h
    refine ⟨_, pss_cons (ps_for PassesOwn.never rfl (pi_str (pv 0)) (pg_name (i := 1) scLIsName.nd rfl (.inl rfl)) (pss_one (ps_if (pt_cmpR op_niS (pv 1) pe_str rfl) (pss_one (ps_ret pe_bl)) pss_nil)))
      (pss_one (ps_ret (pe_and (pe_chain op_le op_le pe_int (pe_callB call_lenT (by rfl) N.len PySem.boot_len (pa_cons (pv 0) pa_nil)) pe_int) (pe_one (pe_cmpR op_niS (pe_ix ix_str (pv 0) pe_int (fun _ _ => rfl)) pe_str rfl))))), ?_⟩
    have el : (x.length : Int) = ((tl x).length : Int) := by rw [len_tl]
    refine q_forS (x := x) (ev_var rfl) (fun i σ H2 => (∃ y, σ = [some (.str x), y]) ∧ Ex H H2 ∧ ((tl x).take i).all (fun c => decide (c ∈ tl small) || decide (c ∈ tl digits)) = true) (fun H2 e2 => ⟨⟨_, rfl⟩, e2, rfl⟩) (fun i c σ H2 hc p => ?_) (fun σ H2 p => ?_)
    · obtain ⟨⟨y, rfl⟩, e2, ha⟩ := p
      have hc' := tl_ix hc
      refine s_when (et_test (ev_op (ev_var rfl) ev_c rv_niS)) (fun h1 H3 e3 => ?_) (fun h1 H3 e3 => ?_)
      · refine s_ret ev_c fun H4 e4 => ?_
        have h1 : (!decide (c ∈ tl ("abcdefghijklmnopqrstuvwxyz0123456789" : Str))) = true := h1
        rw [both_eq] at h1
        have hn : nameB (tl x) = false := by
          unfold nameB
          rw [all_not hc' (by simpa using h1), Bool.and_false]
        rw [hn] at k
        exact k H4 ((e2.trans e3).trans e4)
      · refine ⟨⟨_, rfl⟩, e2.trans e3, ?_⟩
        have h1 : (!decide (c ∈ tl ("abcdefghijklmnopqrstuvwxyz0123456789" : Str))) = false := h1
        rw [both_eq, Bool.not_eq_false'] at h1
        rw [all_take hc', ha, h1]
        rfl
    · obtain ⟨⟨y, rfl⟩, e2, ha⟩ := p
      rw [tl_size, List.take_length] at ha
      refine s_ret (v := .bl (nameB (tl x))) (ev_is (ev_andV (ev_chain ev_c (ev_lenT (a := x) (ev_var rfl) (by omega)) rv_I0 (fun _ => ev_c) (fun _ => rv_I0)) (b := !headIn (tl digits) (tl x)) (fun h1 => ?_)) ?_) fun H4 e4 => k H4 (e2.trans e4)
      · rw [Bool.and_eq_true, decide_eq_true_eq] at h1
        cases ex : tl x with
        | nil =>
          rw [el, ex] at h1
          exact absurd h1.1 (by decide)
        | cons c r => exact ev_op (ev_op (ev_var rfl) ev_c (rv_ixS hl (c := c) (by rw [show x.cps.toList = c :: r from ex]; exact atI_nat (j := 0) rfl))) ev_c rv_niS
      · rw [name_alt, ha, el]
        have h1 : decide ((1 : Int) ≤ ((tl x).length : Int)) = decide (1 ≤ (tl x).length) := decide_eq_decide.mpr (by omega)
        have h2 : decide (((tl x).length : Int) ≤ 24) = decide ((tl x).length ≤ 24) := decide_eq_decide.mpr (by omega)
        rw [h1, h2]
        rfl
theorem letter_alt (l : List Nat) (n : Int) : letterB l n = (!(decide (l.length < 2) || !headIn (tl capitals) l) && ((l.drop 1).all fun c => decide (c ∈ tl digits)) && (decide ((l.length : Int) - 1 ≤ n) && (!secondIs 48 l || decide (l.length = 2)))) := by
  unfold letterB
  have e1 : decide (2 ≤ l.length) = !decide (l.length < 2) := by
    by_cases h : 2 ≤ l.length
    · rw [decide_eq_true h, decide_eq_false (by omega)]
      rfl
    · rw [decide_eq_false h, decide_eq_true (by omega)]
      rfl
  have e2 : decide ((l.length : Int) ≤ n + 1) = decide ((l.length : Int) - 1 ≤ n) := decide_eq_decide.mpr (by omega)
  rw [e1, e2]
  by_cases h : l.length < 2
  · simp [h]
  · have e3 : decide (2 < l.length) = !decide (l.length = 2) := by
      by_cases h : l.length = 2
      · rw [decide_eq_true h, decide_eq_false (by omega)]
        rfl
      · rw [decide_eq_false h, decide_eq_true (by omega)]
        rfl
    rw [e3]
    cases decide (l.length < 2) <;> cases headIn (tl capitals) l <;> cases decide ((l.length : Int) - 1 ≤ n) <;> cases secondIs 48 l <;> cases decide (l.length = 2) <;> simp
theorem scLIsLetter : FnScope ["text", "many", "character"] ["text", "many"] (defScope (topS 21)) := ⟨rfl, rfl, rfl, by decide +kernel, rfl, by decide +kernel, by decide +kernel⟩
theorem ok_law_is_letter {f : Addr} {fd : FuncData} (D : DefAt K mg 21 "_law_is_letter" ["text", "many"] f fd) (N : Nm mg) : FnOk P w K mg base CX0 1 f fd ["text", "many"] spIsLetter := by
  refine D.F.ok scLIsLetter (fun vs H Q E h => ?_) (fun cdv A outer s H vs Q E hr h => ?_)
  · obtain ⟨x, n, rfl, _⟩ := h
    rfl
  · obtain ⟨x, n, rfl, hl, k⟩ := h
    refine ⟨_, pss_cons (ps_if (PW.pt (pw_or (pt_cmpR op_lt (pe_callB call_lenT (by rfl) N.len PySem.boot_len (pa_cons (pv 0) pa_nil)) pe_int (nomark _)) (pw_or1 (pt_cmpR op_niS (pe_ix ix_str (pv 0) pe_int (fun _ _ => rfl)) pe_str rfl)))) (pss_one (ps_ret pe_bl)) pss_nil)
      (pss_cons (ps_for PassesOwn.never rfl (pi_str (pe_slice sl_str (pv 0) (po_some pe_int) po_none)) (pg_name (i := 2) scLIsLetter.nd rfl (.inl rfl)) (pss_one (ps_if (pt_cmpR op_niS (pv 2) pe_str rfl) (pss_one (ps_ret pe_bl)) pss_nil)))
      (pss_one (ps_ret (pe_and (pe_cmpR op_le (pe_op op_sub (pe_callB call_lenT (by rfl) N.len PySem.boot_len (pa_cons (pv 0) pa_nil)) pe_int) (pv 1) (nomark _))
        (pe_one (pe_or (pe_cmpR op_ne (pe_ix ix_str (pv 0) pe_int (fun _ _ => rfl)) pe_str (nomark _)) (pe_one (pe_cmpR op_eq (pe_callB call_lenT (by rfl) N.len PySem.boot_len (pa_cons (pv 0) pa_nil)) pe_int (nomark _))))))))), ?_⟩
    have el : (x.length : Int) = ((tl x).length : Int) := by rw [len_tl]
    have hlen : decide ((x.length : Int) < 2) = decide ((tl x).length < 2) := by
      rw [el]
      exact decide_eq_decide.mpr (by omega)
    refine q_when (b := decide ((tl x).length < 2) || !headIn (tl capitals) (tl x)) (et_or (et_is (et_test (ev_op (ev_lenT (a := x) (ev_var rfl) (by omega)) ev_c rv_I0)) hlen) fun h1 => ?_) (fun hb H1 e1 => ?_) (fun hb H1 e1 => ?_)
    · rw [decide_eq_false_iff_not] at h1
      cases ex : tl x with
      | nil =>
        rw [ex] at h1
        simp at h1
      | cons c r => exact et_test (ev_op (ev_op (ev_var rfl) ev_c (rv_ixS hl (c := c) (by rw [show x.cps.toList = c :: r from ex]; exact atI_nat (j := 0) rfl))) ev_c rv_niS)
    · refine s_ret ev_c fun H2 e2 => ?_
      have hn : letterB (tl x) n = false := by
        rw [letter_alt, hb]
        rfl
      rw [hn] at k
      exact k H2 (e1.trans e2)
    · obtain ⟨c, d, r, ex⟩ : ∃ c d r, tl x = c :: d :: r := by
        rw [Bool.or_eq_false_iff, decide_eq_false_iff_not] at hb
        have h2 := hb.1
        cases ex : tl x with
        | nil => rw [ex] at h2; simp at h2
        | cons c r =>
          cases r with
          | nil => rw [ex] at h2; simp at h2
          | cons d r => exact ⟨c, d, r, rfl⟩
      refine q_forS (x := cutS x (some 1) none) (ev_slS (ev_var rfl) (eo_some ev_c) eo_none (by omega)) (fun i σ H2 => (∃ y, σ = [some (.str x), some (.int n), y]) ∧ Ex H H2 ∧ (((tl x).drop 1).take i).all (fun c => decide (c ∈ tl digits)) = true) (fun H3 e3 => ⟨⟨_, rfl⟩, e1.trans e3, rfl⟩) (fun i c σ H2 hc p => ?_) (fun σ H2 p => ?_)
      · obtain ⟨⟨y, rfl⟩, e2, ha⟩ := p
        have hc' := tl_ix hc
        rw [tl_cut1] at hc'
        refine s_when (et_test (ev_op (ev_var rfl) ev_c rv_niS)) (fun h1 H3 e3 => ?_) (fun h1 H3 e3 => ?_)
        · refine s_ret ev_c fun H4 e4 => ?_
          have h1 : (!decide (c ∈ tl digits)) = true := h1
          have hn : letterB (tl x) n = false := by
            unfold letterB
            rw [all_not hc' (by simpa using h1), Bool.and_false]
          rw [hn] at k
          exact k H4 ((e2.trans e3).trans e4)
        · refine ⟨⟨_, rfl⟩, e2.trans e3, ?_⟩
          have h1 : (!decide (c ∈ tl digits)) = false := h1
          rw [all_take hc', ha]
          simpa using h1
      · obtain ⟨⟨y, rfl⟩, e2, ha⟩ := p
        rw [tl_size, tl_cut1, List.take_length] at ha
        refine s_ret (v := .bl (letterB (tl x) n)) (ev_is (ev_andV (ev_op (ev_op (ev_lenT (a := x) (ev_var rfl) (by omega)) ev_c rv_I0) (ev_var rfl) rv_I0) fun _ =>
          ev_orV (ev_op (ev_op (ev_var rfl) ev_c (rv_ixS hl (c := d) (by rw [show x.cps.toList = c :: d :: r from ex]; exact atI_nat (j := 1) rfl))) ev_c (rv_ne rfl)) fun _ => ev_op (ev_lenT (a := x) (ev_var rfl) (by omega)) ev_c (rv_eq rfl)) ?_) fun H4 e4 => k H4 (e2.trans e4)
        rw [letter_alt, hb, ha, zero_eq, el]
        have h4 : decide (V.int ((tl x).length : Int) = V.int 2) = decide ((tl x).length = 2) := decide_eq_decide.mpr ⟨fun h => by have := V.int.inj h; omega, fun h => by rw [h]; rfl⟩
        rw [h4, ex]
        rfl
end
end K00
-- D4
namespace K00
open PySem PySem.Spec PyProof.Rows L2 Evl KEv TL KD
section
variable {P : Program} {w : World} {K : PySem.W.Frag} {mg : Str → Option Value} {base : Heap}
/-! _law_take -/
theorem scTake : FnScope ["draws", "many"] ["draws", "many"] (defScope (topS 14)) := ⟨rfl, rfl, rfl, by decide +kernel, rfl, by decide +kernel, by decide +kernel⟩
theorem mod_range {a m : Int} (h : 0 < m) : 0 ≤ a.fmod m ∧ a.fmod m < m := ⟨Int.fmod_nonneg_of_pos a h, Int.fmod_lt_of_pos a h⟩
theorem ok_take {f : Addr} {fd : FuncData} (D : DefAt K mg 14 "_law_take" ["draws", "many"] f fd) (N : Nm mg) (mi : mg "int" = none) : FnOk P w K mg base CX0 1 f fd ["draws", "many"] spTake := by
  refine D.F.ok scTake (fun vs H Q E h => ?_) (fun cdv A outer s H vs Q E hr h => ?_)
  · obtain ⟨d, rest, rfl, _, ⟨m, rfl, _⟩, _⟩ := h
    rfl
  · obtain ⟨d, rest, rfl, hd, ⟨m, rfl, hm⟩, k⟩ := h
    obtain ⟨xs, g, hx⟩ := hd
    have s0 : Sd (hide H d) d H := Sd.of ⟨xs, g, hx⟩
    have hz : xs.length ≤ 10000 := g.2.1
    refine ⟨_, pss_cons (ps_if (pt_cmpR op_gt (pe_callB call_len_seq (by rfl) N.len PySem.boot_len (pa_cons (pv 0) pa_nil)) pe_int (nomark _))
        (pss_one (ps_ret (pe_op op_modN (pe_callTy call_intI (by rfl) mi (by decide +kernel) (pa_cons (pe_bm0 PySem.F.plainAttrs_list PySem.F.slot_list_pop PySem.F.type_list_pop mt_pop (pv 0)) pa_nil)) (pv 1)))) pss_nil)
      (pss_cons (ps_asg (pe_op op_modN (pe_callTy call_intI (by rfl) mi (by decide +kernel) (pa_cons (pe_op op_add (pe_op op_mul (pe_ix ix_list (pv 0) pe_int (fun _ _ => rfl)) pe_int) pe_int) pa_nil)) pe_int) (pg_sub (pv 0) pe_int set_list))
      (pss_one (ps_ret (pe_op op_modN (pe_callTy call_intI (by rfl) mi (by decide +kernel) (pa_cons (pe_op op_fdiv (pe_ix ix_list (pv 0) pe_int (fun _ _ => rfl)) pe_int) pa_nil)) (pv 1))))), ?_⟩
    have hS : SqL K H d (xs.map V.int) := .inl (.inl hx)
    refine ⟨.ref d, rfl, d, xs.map V.int, rfl, .inl hS, _, _, rfl, rfl, _, rfl, ite2 (fun h1 => ?_) (fun h1 => ?_)⟩
    · have h1 := of_decide_eq_true h1
      rw [List.length_map] at h1
      have hl : 2 ≤ xs.length := by omega
      have hlast : xs.length - 1 < xs.length := by omega
      have hp : (xs.map V.int)[(xs.map V.int).length - 1]? = some (.int xs[xs.length - 1]) := by
        rw [List.length_map, List.getElem?_map, List.getElem?_eq_getElem hlast]
        rfl
      refine ⟨.ref d, rfl, .inl ⟨rfl, _, hS⟩, d, xs.map V.int, .int xs[xs.length - 1], rfl, rfl, hx, hp, ?_⟩
      refine .inl ⟨_, rfl, .int m, rfl, _, m, rfl, rfl, (by omega), ?_⟩
      have e : (xs.map V.int).dropLast = xs.dropLast.map V.int := (List.map_dropLast ..).symm
      rw [e]
      have g' : GoodL xs.dropLast := by
        refine ⟨fun z => ?_, by rw [List.length_dropLast]; omega, fun x hx => g.2.2 x ((List.dropLast_sublist xs).subset hx)⟩
        have := congrArg List.length z
        rw [List.length_dropLast] at this
        simp at this
        omega
      exact k _ (hide H d) _ (Ex.refl _) (s0.drawn g') ⟨m, _, rfl, rfl, (mod_range hm).1, (mod_range hm).2⟩
    · obtain ⟨x, r, rfl⟩ : ∃ x r, xs = x :: r := by
        cases xs with
        | nil => exact absurd rfl g.1
        | cons x r => exact ⟨x, r, rfl⟩
      have hx0 := g.2.2 x List.mem_cons_self
      have h0 : H d = some (.lst (.int x :: r.map V.int)) := hx
      refine q_setL (l := d) (xs := .int x :: r.map V.int) (j := 0) h0 (ev_op (ev_cb (ea_cons (ev_op (ev_op (ev_op (ev_var rfl) ev_c (rv_ixL (sq_of h0) (atI_nat (j := 0) rfl))) ev_c (rv_I (.inr (by decide)))) ev_c rv_I0) ea_nil) rc_intI) ev_c (rv_I (by decide))) (ev_var rfl) ev_c (by simp) fun H1 e1 => ?_
      have mr := mod_range (a := x * 48271 + 11) (show (0 : Int) < 2147483647 by decide)
      have g' : GoodL (((x * 48271 + 11).fmod 2147483647) :: r) := ⟨List.cons_ne_nil _ _, by simpa using g.2.1, fun y hy => by
        rcases List.mem_cons.mp hy with rfl | hy
        · exact mr
        · exact g.2.2 y (List.mem_cons_of_mem _ hy)⟩
      have s1 : Sd (hide H d) d (upd H1 d (.lst ((((x * 48271 + 11).fmod 2147483647) :: r).map V.int))) := (s0.mono e1).drawn g'
      have h1 : (upd H1 d (.lst (((.int x :: r.map V.int)).set 0 (.int ((x * 48271 + 11).fmod 2147483647))))) d = some (.lst ((((x * 48271 + 11).fmod 2147483647) :: r).map V.int)) := upd_same
      refine s_ret (ev_op (ev_cb (ea_cons (ev_op (ev_op (ev_var rfl) ev_c (rv_ixL (sq_of h1) (atI_nat (j := 0) rfl))) ev_c (rv_I ⟨by decide, by decide⟩)) ea_nil) rc_intI) (ev_var rfl) (rv_I (show m ≠ 0 by omega))) fun H2 e2 => ?_
      exact k _ (hide H d) _ (Ex.refl _) (s1.mono e2) ⟨m, _, rfl, rfl, (mod_range hm).1, (mod_range hm).2⟩
end
end K00
-- D5
namespace K00
open PySem PySem.Spec PyProof.Rows L2 Evl KEv TL KD
section
variable {P : Program} {w : World} {K : PySem.W.Frag} {mg : Str → Option Value} {base : Heap}
/-! _law_draws -/
theorem scDraws : FnScope ["script", "first", "cells", "found", "at", "cell", "rest", "k", "mixed"] ["script", "first", "cells"] (defScope (topS 13)) := ⟨rfl, rfl, rfl, by decide +kernel, rfl, by decide +kernel, by decide +kernel⟩
def InR (x : Int) : Prop := 0 ≤ x ∧ x < 2147483647
/-- draws are made of any whole numbers -/
def spDraws (K : PySem.W.Frag) : Sp := fun vs H Q _ => ∃ (a : Addr) (ns : List Int), vs = [.ref a, .int 0, .int 16] ∧ SqL K H a (ns.map V.int) ∧ ∀ p H2 xs, H p = none → Ex H H2 → H2 p = some (.lst (xs.map V.int)) → GoodL xs → Q (.ref p) H2
theorem mod997 (a : Int) : InR (a.fmod 997) := by
  have := mod_range (a := a) (show (0 : Int) < 997 by decide)
  exact ⟨this.1, by omega⟩
/-- so many numbers stand in the new list -/
def Lw (p : Addr) (H : Hp) (n : Nat) (H' : Hp) : Prop := Ex H H' ∧ ∃ xs : List Int, H' p = some (.lst (xs.map V.int)) ∧ xs.length = n ∧ ∀ x ∈ xs, InR x
theorem Lw.mono {p : Addr} {H H' H2 : Hp} {n : Nat} (h : Lw p H n H') (e : Ex H' H2) : Lw p H n H2 := ⟨h.1.trans e, h.2.imp fun xs g => ⟨e _ _ g.1, g.2⟩⟩
theorem Lw.app {p : Addr} {H H' : Hp} {n : Nat} {x : Int} (hp : H p = none) {xs : List Int} (e : Ex H H') (hl : xs.length = n) (hx : ∀ y ∈ xs, InR y) (h : InR x) : Lw p H (n + 1) (upd H' p (.lst (xs.map V.int ++ [.int x]))) := ⟨e.mut hp, xs ++ [x], by rw [List.map_append]; exact upd_same, by rw [List.length_append, hl]; rfl, fun y hy => by
  rcases List.mem_append.mp hy with hy | hy
  · exact hx y hy
  · rw [List.mem_singleton.mp hy]
    exact h⟩
theorem ok_draws {f : Addr} {fd : FuncData} (D : DefAt K mg 13 "_law_draws" ["script", "first", "cells"] f fd) (N : Nm mg) (mi : mg "int" = none) (ma : mg "abs" = none) (ms : mg "sum" = none) (mr : mg "range" = none) : FnOk P w K mg base CX0 1 f fd ["script", "first", "cells"] (spDraws K) := by
  refine D.F.ok scDraws (fun vs H Q E h => ?_) (fun cdv A outer s H vs Q E hr h => ?_)
  · obtain ⟨a, ns, rfl, _⟩ := h
    rfl
  · obtain ⟨a, ns, rfl, hS, k⟩ := h
    refine ⟨_, pss_cons (ps_asg (pe_lst pa_nil) (pg_name (i := 3) scDraws.nd rfl (.inl rfl)))
      (pss_cons (ps_for PassesOwn.never rfl (pi_range2 (by rfl) mr (pa_cons (pv 1) (pa_cons (pe_op op_add (pv 1) (pv 2)) pa_nil))) (pg_name (i := 4) scDraws.nd rfl (.inl rfl))
        (pss_cons (ps_asg (pe_op op_add (pe_op op_modN (pe_callB call_absI (by rfl) ma (by decide +kernel) (pa_cons (pe_callTy call_intI (by rfl) mi (by decide +kernel) (pa_cons (pe_callB (cr_sum (by rfl)) (by rfl) ms (by decide +kernel) (pa_cons (pv 0) pa_nil)) pa_nil)) pa_nil)) pe_int) (pe_op op_mul (pv 4) pe_int)) (pg_name (i := 5) scDraws.nd rfl (.inl rfl)))
        (pss_cut (ps_if (pt_cmpR op_lt (pv 4) (pe_callB call_len_seq (by rfl) N.len PySem.boot_len (pa_cons (pv 0) pa_nil)) (nomark _))
          (pss_one (ps_asg (pe_callB call_absI (by rfl) ma (by decide +kernel) (pa_cons (pe_callTy call_intI (by rfl) mi (by decide +kernel) (pa_cons (pe_ix ix_list (pv 0) (pv 4) (fun _ _ => rfl)) pa_nil)) pa_nil)) (pg_name (i := 5) scDraws.nd rfl (.inl rfl)))) pss_nil)
        (pss_cons (ps_asg (pv 5) (pg_name (i := 6) scDraws.nd rfl (.inl rfl)))
        (pss_one (ps_for PassesOwn.never rfl (pi_range1 (by rfl) mr (pa_cons pe_int pa_nil)) (pg_name (i := 7) scDraws.nd rfl (.inl rfl))
          (pss_one (ps_if (PW.pt (pw_and (pt_cmpR op_ge (pv 5) (pe_op op_pow pe_int pe_int) (nomark _)) (pw_and1 (pt_cmpR op_gt (pv 6) pe_int (nomark _)))))
            (pss_cons (ps_expr (pe_bm PySem.F.plainAttrs_list PySem.F.slot_list_append PySem.F.type_list_append mt_append (pv 3) (pa_cons (pe_op op_modN (pe_callTy call_intI (by rfl) mi (by decide +kernel) (pa_cons (pv 6) pa_nil)) pe_int) pa_nil)))
            (pss_one (ps_asg (pe_op op_fdiv (pv 6) pe_int) (pg_name (i := 6) scDraws.nd rfl (.inl rfl)))))
            (pss_cons (ps_asg (pe_op op_modN (pe_callTy call_intI (by rfl) mi (by decide +kernel) (pa_cons (pe_op op_add (pe_op op_add (pe_op op_mul (pv 5) pe_int) (pe_op op_mul (pe_op op_add (pv 7) pe_int) pe_int)) (pe_op op_mul (pv 4) pe_int)) pa_nil)) pe_int) (pg_name (i := 8) scDraws.nd rfl (.inl rfl)))
            (pss_cons (ps_asg (pe_op op_modN (pe_callTy call_intI (by rfl) mi (by decide +kernel) (pa_cons (pe_op op_add (pe_op op_mul (pv 8) (pv 8)) (pe_op op_mul pe_int (pe_op op_add (pv 7) pe_int))) pa_nil)) pe_int) (pg_name (i := 8) scDraws.nd rfl (.inl rfl)))
            (pss_one (ps_expr (pe_bm PySem.F.plainAttrs_list PySem.F.slot_list_append PySem.F.type_list_append mt_append (pv 3) (pa_cons (pe_op op_modN (pe_callTy call_intI (by rfl) mi (by decide +kernel) (pa_cons (pe_op op_fdiv (pv 8) pe_int) pa_nil)) pe_int) pa_nil))))))))))))))
      (pss_cons (ps_expr (pe_bm0 PySem.F.plainAttrs_list PySem.F.slot_list_reverse PySem.F.type_list_reverse mt_reverse (pv 3)))
      (pss_one (ps_ret (pv 3))))), ?_⟩
    refine q_asgL (el_lst ea_nil (by decide)) fun p H1 hp e1 h1 => ?_
    have hp' : H p = none := hp
    refine q_forR2 (lo := 0) (n := 16) (ea_cons (ev_var rfl) (ea_cons (ev_op (ev_var rfl) (ev_var rfl) rv_I0) ea_nil)) (by decide) (fun i σ H' => (∃ u4 u5 u6 u7 u8, σ = [some (.ref a), some (.int 0), some (.int 16), some (.ref p), u4, u5, u6, u7, u8]) ∧ Lw p H (40 * i) H')
      (fun H2 e2 => ⟨⟨_, _, _, _, _, rfl⟩, e1.trans e2, [], e2 _ _ h1, rfl, fun x hx => absurd hx (by simp)⟩) (fun i σ H2 hi q => ?_) (fun σ H2 q => ?_)
    · obtain ⟨⟨u4, u5, u6, u7, u8, rfl⟩, q⟩ := q
      have hSa : SqL K H2 a (ns.map V.int) := ex_l q.1 hS
      refine q_asg (ev_op (ev_op (ev_cb (ea_cons (ev_cb (ea_cons (ev_cb (ea_cons (ev_var rfl) ea_nil) (rc_sum hSa)) ea_nil) rc_intI) ea_nil) rc_abs) ev_c (rv_I (by decide))) (ev_op (ev_var rfl) ev_c (rv_I (.inr (by decide)))) rv_I0) fun H3 e3 => ?_
      have hSb : SqL K H3 a (ns.map V.int) := ex_l e3 hSa
      refine q_cut (M := fun σ H' => (∃ c : Int, σ = [some (.ref a), some (.int 0), some (.int 16), some (.ref p), some (.int (0 + (i : Int))), some (.int c), u6, u7, u8]) ∧ Lw p H (40 * i) H') ?_ fun σ H4 q4 => ?_
      · refine s_when (et_test (ev_op (ev_var rfl) (ev_len (ev_var rfl) hSb) rv_I0)) (fun hb H4 e4 => ?_) (fun hb H4 e4 => ⟨⟨_, rfl⟩, (q.mono e3).mono e4⟩)
        have hb := of_decide_eq_true hb
        rw [List.length_map] at hb
        have hi2 : i < ns.length := by omega
        have hg : (ns.map V.int)[i]? = some (.int ns[i]) := by
          rw [List.getElem?_map, List.getElem?_eq_getElem hi2]
          rfl
        refine s_asg (ev_cb (ea_cons (ev_cb (ea_cons (ev_op (ev_var rfl) (ev_var rfl) (rv_ixL (ex_l e4 hSb) (at_of (show (0 : Int) + (i : Int) = ((i : Nat) : Int) by omega) hg))) ea_nil) rc_intI) ea_nil) rc_abs) fun H5 e5 => ⟨⟨_, rfl⟩, ((q.mono e3).mono e4).mono e5⟩
      · obtain ⟨⟨c, rfl⟩, q⟩ := q4
        refine q_asg (ev_var rfl) fun H5 e5 => ?_
        refine s_forR1 (n := 40) (ea_cons ev_c ea_nil) (by decide) (fun j σ H' => (∃ (r : Int) (u7 u8 : Option V), σ = [some (.ref a), some (.int 0), some (.int 16), some (.ref p), some (.int (0 + (i : Int))), some (.int c), some (.int r), u7, u8]) ∧ Lw p H (40 * i + j) H')
          (fun H6 e6 => ⟨⟨_, _, _, rfl⟩, (q.mono e5).mono e6⟩) (fun j σ H6 hj q => ?_) (fun σ H6 q => ?_)
        · obtain ⟨⟨r, u7, u8, rfl⟩, q⟩ := q
          refine s_if (et_and (et_test (ev_op (ev_var rfl) (ev_op ev_c ev_c (rv_I ⟨by decide, by decide, by decide⟩)) rv_I0)) fun _ => et_test (ev_op (ev_var rfl) ev_c rv_I0)) (fun _ H7 e7 => ?_) (fun _ H7 e7 => ?_)
          · obtain ⟨e8, xs, hx, hl, hin⟩ := q.mono e7
            refine q_app hx (ev_var rfl) (ev_op (ev_cb (ea_cons (ev_var rfl) ea_nil) rc_intI) ev_c (rv_I (by decide))) (by rw [List.length_map]; omega) fun H8 e9 => ?_
            refine s_asg (ev_op (ev_var rfl) ev_c (rv_I ⟨by decide, by decide⟩)) fun H9 e10 => ⟨⟨_, _, _, rfl⟩, (Lw.app hp' (e8.trans e9) hl hin (mod997 _)).mono e10⟩
          · refine q_asg (ev_op (ev_cb (ea_cons (ev_op (ev_op (ev_op (ev_var rfl) ev_c (rv_I (.inr (by decide)))) (ev_op (ev_op (ev_var rfl) ev_c rv_I0) ev_c (rv_I (.inr (by decide)))) rv_I0) (ev_op (ev_var rfl) ev_c (rv_I (.inr (by decide)))) rv_I0) ea_nil) rc_intI) ev_c (rv_I (by decide))) fun H8 e8 => ?_
            refine q_asg (ev_op (ev_cb (ea_cons (ev_op (ev_op (ev_var rfl) (ev_var rfl) (rv_I (.inl ?_))) (ev_op ev_c (ev_op (ev_var rfl) ev_c rv_I0) (rv_I (.inl (by decide)))) rv_I0) ea_nil) rc_intI) ev_c (rv_I (by decide))) fun H9 e9 => ?_
            · have := mod_range (a := c * 48271 + ((j : Int) + 1) * 69621 + (0 + (i : Int)) * 31) (show (0 : Int) < 2147483647 by decide)
              constructor <;> omega
            · obtain ⟨e10, xs, hx, hl, hin⟩ := ((q.mono e7).mono e8).mono e9
              refine s_app hx (ev_var rfl) (ev_op (ev_cb (ea_cons (ev_op (ev_var rfl) ev_c (rv_I ⟨by decide, by decide⟩)) ea_nil) rc_intI) ev_c (rv_I (by decide))) (by rw [List.length_map]; omega) fun H8 e9 => ⟨⟨_, _, _, rfl⟩, Lw.app hp' (e10.trans e9) hl hin (mod997 _)⟩
        · obtain ⟨⟨r, u7, u8, rfl⟩, q⟩ := q
          exact ⟨⟨_, _, _, _, _, rfl⟩, q⟩
    · obtain ⟨⟨u4, u5, u6, u7, u8, rfl⟩, e2, xs, hx, hl, hin⟩ := q
      have e3 : (xs.map V.int).reverse = xs.reverse.map V.int := (List.map_reverse ..).symm
      refine ⟨.ref p, rfl, .inl ⟨rfl, _, sq_of hx⟩, p, xs.map V.int, rfl, rfl, hx, ?_⟩
      rw [e3]
      refine s_ret (ev_var rfl) fun H4 e4 => k p H4 xs.reverse hp ((e2.mut hp).trans e4) (e4 _ _ upd_same) ⟨fun z => ?_, by rw [List.length_reverse, hl]; decide, fun x hx => hin x (List.mem_reverse.mp hx)⟩
      have := congrArg List.length z
      rw [List.length_reverse, hl] at this
      exact absurd this (by decide)
end
end K00
-- L1
/-! letters: a capital and a number as it is written; the two keys of the order agree -/
namespace K00
open PySem PySem.Spec PyProof.Rows L2 Evl KEv TL KDd NumText
def IsLet (x : Str) : Prop := ∃ c n, c ∈ tl capitals ∧ tl x = c :: numL n ∧ x.length ≤ 400
def capOf (x : Str) : Nat := (tl x).headD 0
def numOf (x : Str) : Nat := digitsVal ((tl x).drop 1)
theorem cps_eq {x : Str} {i : Nat} : x.cps[i]? = (tl x)[i]? := Array.getElem?_toList.symm
theorem IsLet.cap {x : Str} (h : IsLet x) : x.cps[0]? = some (capOf x) ∧ capOf x ∈ tl capitals := by
  obtain ⟨c, n, hc, e, _⟩ := h
  have e1 : capOf x = c := by
    unfold capOf
    rw [e]
    rfl
  rw [cps_eq, e, e1]
  exact ⟨rfl, hc⟩
theorem IsLet.pos {x : Str} (h : IsLet x) : 2 ≤ x.length ∧ x.length ≤ 400 := by
  obtain ⟨c, n, hc, e, hl⟩ := h
  have h1 := numL_ne n
  have h2 : 1 ≤ (numL n).length := by
    cases q : numL n with
    | nil => exact absurd q h1
    | cons a b => simp
  refine ⟨?_, hl⟩
  rw [len_tl, e, List.length_cons]
  omega
theorem IsLet.num {x : Str} (h : IsLet x) : PySem.intText? (cutS x (some 1) none) = some (numOf x : Int) ∧ (cutS x (some 1) none).length ≤ 400 := by
  obtain ⟨c, n, hc, e, hl⟩ := h
  have e2 : tl (cutS x (some 1) none) = numL n := by
    rw [tl_cut1, e]
    rfl
  have e3 : (cutS x (some 1) none).length ≤ 400 := Nat.le_trans (cutS_length x (some 1) none) hl
  refine ⟨?_, e3⟩
  have e4 : (cutS x (some 1) none).cps.toList = numL n := e2
  have := intText_digits (x := cutS x (some 1) none) (by rw [e4]; exact numL_digits n) (by rw [e4]; exact numL_ne n) (by omega)
  rw [this, e4]
  unfold numOf
  rw [e]
  rfl
theorem IsLet.shape {x : Str} (h : IsLet x) : tl x = capOf x :: numL (numOf x) := by
  obtain ⟨c, n, hc, e, hl⟩ := h
  unfold capOf numOf
  rw [e]
  show c :: numL n = c :: numL (digitsVal (numL n))
  rw [numL_val]
/-! numbers in order and their writings -/
theorem dv_lt : ∀ (l : List Nat) (a : Nat), AllDigits l → l.foldl (fun acc c => acc * 10 + (c - 48)) a < (a + 1) * 10 ^ l.length := by
  intro l
  induction l with
  | nil => intro a _; simp
  | cons c r ih =>
    intro a h
    have hc := h.head
    have h1 := ih (a * 10 + (c - 48)) h.tail
    rw [List.foldl_cons, List.length_cons, Nat.pow_succ]
    have h2 : a * 10 + (c - 48) + 1 ≤ (a + 1) * 10 := by omega
    have h3 := Nat.mul_le_mul_right (10 ^ r.length) h2
    calc _ < (a * 10 + (c - 48) + 1) * 10 ^ r.length := h1
      _ ≤ (a + 1) * 10 * 10 ^ r.length := h3
      _ = (a + 1) * (10 ^ r.length * 10) := by rw [Nat.mul_assoc, Nat.mul_comm 10]
theorem dv_ge : ∀ (l : List Nat) (a : Nat), a * 10 ^ l.length ≤ l.foldl (fun acc c => acc * 10 + (c - 48)) a := by
  intro l
  induction l with
  | nil => intro a; simp
  | cons c r ih =>
    intro a
    have h1 := ih (a * 10 + (c - 48))
    rw [List.foldl_cons, List.length_cons, Nat.pow_succ]
    have h3 := Nat.mul_le_mul_right (10 ^ r.length) (show a * 10 ≤ a * 10 + (c - 48) by omega)
    calc a * (10 ^ r.length * 10) = a * 10 * 10 ^ r.length := by rw [Nat.mul_assoc, Nat.mul_comm 10]
      _ ≤ _ := h3
      _ ≤ _ := h1
theorem dv_mono : ∀ (l r : List Nat) (a b : Nat), l.length = r.length → AllDigits l → AllDigits r → a < b → l.foldl (fun acc c => acc * 10 + (c - 48)) a < r.foldl (fun acc c => acc * 10 + (c - 48)) b := by
  intro l r a b hl h1 h2 hab
  have z1 := dv_lt l a h1
  have z2 := dv_ge r b
  rw [hl] at z1
  have z3 := Nat.mul_le_mul_right (10 ^ r.length) (show a + 1 ≤ b from hab)
  omega
theorem dv_lex : ∀ (l r : List Nat) (a : Nat), l.length = r.length → AllDigits l → AllDigits r → (l.foldl (fun acc c => acc * 10 + (c - 48)) a < r.foldl (fun acc c => acc * 10 + (c - 48)) a ↔ l < r) := by
  intro l
  induction l with
  | nil =>
    intro r a hl _ _
    cases r with
    | nil => simp
    | cons c r => simp at hl
  | cons c l ih =>
    intro r a hl h1 h2
    cases r with
    | nil => simp at hl
    | cons d r =>
      have hl' : l.length = r.length := by simpa using hl
      have hc := h1.head
      have hd := h2.head
      rw [List.foldl_cons, List.foldl_cons, List.cons_lt_cons_iff]
      rcases Nat.lt_trichotomy c d with h | h | h
      · have := dv_mono l r (a * 10 + (c - 48)) (a * 10 + (d - 48)) hl' h1.tail h2.tail (by omega)
        exact ⟨fun _ => .inl h, fun _ => this⟩
      · subst h
        rw [ih r _ hl' h1.tail h2.tail]
        exact ⟨fun z => .inr ⟨rfl, z⟩, fun z => z.elim (fun z => absurd z (Nat.lt_irrefl _)) fun z => z.2⟩
      · have := dv_mono r l (a * 10 + (d - 48)) (a * 10 + (c - 48)) hl'.symm h2.tail h1.tail (by omega)
        exact ⟨fun z => by omega, fun z => z.elim (fun z => by omega) fun z => by omega⟩
theorem numL_lt_pow (n : Nat) : n < 10 ^ (numL n).length := by
  have h := dv_lt (numL n) 0 (numL_digits n)
  have e : (numL n).foldl (fun acc c => acc * 10 + (c - 48)) 0 = n := numL_val n
  rw [e] at h
  simpa using h
theorem numL_len_mono {m n : Nat} (h : m ≤ n) : (numL m).length ≤ (numL n).length := by
  have h1 : 0 < (numL n).length := List.length_pos_iff.mpr (numL_ne n)
  exact numL_len h1 (Nat.lt_of_le_of_lt h (numL_lt_pow n))
/-- by number, or by length and then sign by sign -/
theorem num_order (m n : Nat) : m < n ↔ (numL m).length < (numL n).length ∨ (numL m).length = (numL n).length ∧ numL m < numL n := by
  rcases Nat.lt_trichotomy (numL m).length (numL n).length with h | h | h
  · refine ⟨fun _ => .inl h, fun _ => ?_⟩
    exact Decidable.byContradiction fun z => by
      have := numL_len_mono (show n ≤ m by omega)
      omega
  · have z := dv_lex (numL m) (numL n) 0 h (numL_digits m) (numL_digits n)
    have e1 : (numL m).foldl (fun acc c => acc * 10 + (c - 48)) 0 = m := numL_val m
    have e2 : (numL n).foldl (fun acc c => acc * 10 + (c - 48)) 0 = n := numL_val n
    rw [e1, e2] at z
    rw [z]
    exact ⟨fun q => .inr ⟨h, q⟩, fun q => q.elim (fun q => by omega) fun q => q.2⟩
  · refine ⟨fun z => ?_, fun z => z.elim (fun z => by omega) fun z => by omega⟩
    have := numL_len_mono (show m ≤ n by omega)
    omega
/-! the two keys -/
def keyN (x : Str) : PyData := .tuple [.str ⟨#[capOf x]⟩, .int (numOf x : Int)]
abbrev keyL : Str → PyData := KLamS.lamKey capOf
end K00
-- L2k
namespace K00
open PySem PySem.Spec PyProof.Rows L2 Evl KEv TL KDd NumText PySem.W
theorem str_eq_iff {x y : Str} : x = y ↔ tl x = tl y := by
  constructor
  · intro h
    rw [h]
  · intro h
    cases x with
    | mk a => cases y with
      | mk b =>
        have : a = b := Array.toList_inj.mp h
        rw [this]
theorem one_lt (c d : Nat) : dataLt (.str ⟨#[c]⟩) (.str ⟨#[d]⟩) = decide (c < d) := by
  rw [dataLt_str]
  apply decide_eq_decide.mpr
  show [c] < [d] ↔ _
  rw [List.cons_lt_cons_iff]
  constructor
  · intro h
    rcases h with h | ⟨_, h⟩
    · exact h
    · exact absurd h (by simp)
  · exact fun h => .inl h
theorem one_eqv (c d : Nat) : PyData.eqv (.str ⟨#[c]⟩) (.str ⟨#[d]⟩) = decide (c = d) := by
  simp only [PyData.eqv]
  by_cases h : c = d
  · subst h
    simp
  · have : ¬ ((⟨#[c]⟩ : Str) = ⟨#[d]⟩) := fun z => h (by
      have h2 := congrArg tl z
      have h3 : [c] = [d] := h2
      exact List.head_eq_of_cons_eq h3)
    simp [h, this]
theorem keyN_lt (x y : Str) : dataLt (keyN x) (keyN y) = decide (capOf x < capOf y ∨ capOf x = capOf y ∧ numOf x < numOf y) := by
  unfold keyN
  rw [dataLt_pair rfl rfl, one_eqv, one_lt, dataLt_int]
  simp only [PyData.eqv]
  by_cases h : capOf x = capOf y
  · by_cases h2 : numOf x = numOf y
    · simp [h, h2]
    · have : ¬ ((numOf x : Int) = (numOf y : Int)) := by omega
      simp [h, this]
  · simp [h]
theorem lt3 {a a' b b' c c' : PyData} (h1 : alike a a' = true) (h2 : alike b b' = true) (h3 : alike c c' = true) : dataLt (.tuple [a, b, c]) (.tuple [a', b', c']) = if PyData.eqv a a' = true then (if PyData.eqv b b' = true then (if PyData.eqv c c' = true then false else dataLt c c') else dataLt b b') else dataLt a a' := by
  rw [dataLt_tuple, dataLt_cons h1, dataLt_cons h2, dataLt_cons h3]
  have e : PyProof.Rows.lexLt itemOrd (keyToksAll []) (keyToksAll []) = false := lex_irrefl _
  rw [e]
theorem int_eqv (a b : Int) : PyData.eqv (.int a) (.int b) = decide (a = b) := by
  simp only [PyData.eqv]
  by_cases h : a = b <;> simp [h]
theorem str_eqv (a b : Str) : PyData.eqv (.str a) (.str b) = decide (a = b) := by
  simp only [PyData.eqv]
  by_cases h : a = b <;> simp [h]
theorem list_irr (l : List Nat) : ¬ l < l := List.lt_irrefl l
theorem keyL_lt {x y : Str} (hx : IsLet x) (hy : IsLet y) : dataLt (keyL x) (keyL y) = decide (capOf x < capOf y ∨ capOf x = capOf y ∧ numOf x < numOf y) := by
  show dataLt (.tuple [.str ⟨#[capOf x]⟩, .int (x.length : Int), .str x]) (.tuple [.str ⟨#[capOf y]⟩, .int (y.length : Int), .str y]) = _
  rw [lt3 rfl rfl rfl, one_eqv, one_lt, dataLt_int, dataLt_str]
  have lx : x.length = (numL (numOf x)).length + 1 := by rw [len_tl, hx.shape]; rfl
  have ly : y.length = (numL (numOf y)).length + 1 := by rw [len_tl, hy.shape]; rfl
  have tx : x.cps.toList = capOf x :: numL (numOf x) := hx.shape
  have ty : y.cps.toList = capOf y :: numL (numOf y) := hy.shape
  have ord := num_order (numOf x) (numOf y)
  by_cases h : capOf x = capOf y
  · rw [if_pos (decide_eq_true h)]
    have e0 : (capOf x < capOf y ∨ capOf x = capOf y ∧ numOf x < numOf y) ↔ numOf x < numOf y := ⟨fun z => z.elim (fun z => by omega) fun z => z.2, fun z => .inr ⟨h, z⟩⟩
    rw [decide_eq_decide.mpr e0]
    rw [int_eqv, str_eqv]
    by_cases h2 : x.length = y.length
    · rw [if_pos (decide_eq_true (show (x.length : Int) = (y.length : Int) by omega))]
      by_cases h3 : x = y
      · rw [if_pos (decide_eq_true h3)]
        symm
        apply decide_eq_false
        rw [h3]
        exact Nat.lt_irrefl _
      · rw [if_neg (show ¬ decide (x = y) = true from fun z => h3 (of_decide_eq_true z))]
        apply decide_eq_decide.mpr
        rw [tx, ty, h, List.cons_lt_cons_iff, ord]
        constructor
        · intro z
          rcases z with z | z
          · exact absurd z (Nat.lt_irrefl _)
          · exact .inr ⟨by omega, z.2⟩
        · intro z
          rcases z with z | z
          · omega
          · exact .inr ⟨rfl, z.2⟩
    · rw [if_neg (show ¬ decide ((x.length : Int) = (y.length : Int)) = true from fun z => h2 (by have := of_decide_eq_true z; omega))]
      apply decide_eq_decide.mpr
      rw [ord]
      constructor
      · intro z
        exact .inl (by omega)
      · intro z
        rcases z with z | z
        · omega
        · omega
  · rw [if_neg (show ¬ decide (capOf x = capOf y) = true from fun z => h (of_decide_eq_true z))]
    apply decide_eq_decide.mpr
    exact ⟨fun z => .inl z, fun z => z.elim id fun z => absurd z.1 h⟩
theorem le_agree {x y : Str} (hx : IsLet x) (hy : IsLet y) : dataLe false keyN x y = dataLe false keyL x y := by
  rw [dataLe_eq, dataLe_eq]
  show (!dataLt (keyN y) (keyN x)) = (!dataLt (keyL y) (keyL x))
  rw [keyN_lt, keyL_lt hy hx]
/-- the two sorts agree -/
theorem sort_agree {ss : List Str} (h : ∀ x ∈ ss, IsLet x) : ss.mergeSort (dataLe false keyL) = ss.mergeSort (dataLe false keyN) := by
  have z := List.map_mergeSort (r := dataLe false keyN) (s := dataLe false keyL) (f := id) (l := ss) fun a ha b hb => le_agree (h a ha) (h b hb)
  simpa using z.symm
end K00
-- D6
namespace K00
open PySem PySem.Spec PyProof.Rows L2 Evl KEv TL KDd KSq KDc KKey
section
variable {P : Program} {w : World} {K : PySem.W.Frag} {mg : Str → Option Value} {base : Heap}
/-! letter_key and in_order -/
theorem key_letter {f : Addr} {fd : FuncData} (D : DefAt K mg 6 "letter_key" ["letter"] f fd) (mi : mg "int" = none) : KeyFn P w K mg base f IsLet keyN := by
  obtain ⟨oc, od, kV, doc, pm, an, cdv, ct, osl, rfl, lk, hcd⟩ := D.F.ex
  refine key_cap_num (a := "letter") (cp := capOf) (num := fun x => (numOf x : Int)) lk hcd rfl rfl rfl rfl rfl rfl (by decide +kernel) (by decide) (fun u => rfl) mi fun x hx => ?_
  have h1 := hx.pos
  exact ⟨hx.cap.1, by omega, by omega, hx.num.1⟩
def spInOrder (K : PySem.W.Frag) : Sp := fun vs H Q _ => ∃ (a : Addr) (ss : List Str), vs = [.ref a] ∧ Sq K H a (ss.map V.str) ∧ (∀ x ∈ ss, IsLet x) ∧ ss.length ≤ 1000 ∧ RetL (((dd ss).mergeSort (PySem.W.dataLe false keyN)).map V.str) H Q
theorem scInOrder : FnScope ["letters", "found", "letter"] ["letters"] (defScope (topS 7)) := ⟨rfl, rfl, rfl, by decide +kernel, rfl, by decide +kernel, by decide +kernel⟩
theorem rcl_listD {p : Addr} {kvs : List (Key × V)} {H : Hp} (h : H p = some (.dK kvs)) : RCL rListD [.ref p] H (kvs.map fun kv => kV kv.1) := fun H1 e Q q => ⟨p, kvs, rfl, e _ _ h, fun l hl => q l _ hl (Ex.new hl) upd_same⟩
theorem at_str {ss : List Str} {i : Nat} {x : V} (h : (ss.map V.str)[i]? = some x) : i < ss.length ∧ x = .str (ss.getD i Str.empty) ∧ ss[i]? = some (ss.getD i Str.empty) := by
  rw [List.getElem?_map] at h
  cases e : ss[i]? with
  | none =>
    rw [e] at h
    cases h
  | some y =>
    rw [e] at h
    have hy : ss.getD i Str.empty = y := by
      rw [List.getD_eq_getElem?_getD, e]
      rfl
    rw [hy]
    exact ⟨(List.getElem?_eq_some_iff.mp e).1, (Option.some.inj h).symm, rfl⟩
theorem ok_in_order {f fk : Addr} {fd fdk : FuncData} (D : DefAt K mg 7 "in_order" ["letters"] f fd) (Dk : DefAt K mg 6 "letter_key" ["letter"] fk fdk) (mi : mg "int" = none) (ms : mg "sorted" = none) (ml : mg "list" = none) : FnOk P w K mg base CX0 4 f fd ["letters"] (spInOrder K) := by
  refine D.F.ok scInOrder (fun vs H Q E h => ?_) (fun cdv A outer s H vs Q E hr h => ?_)
  · obtain ⟨a, ss, rfl, _⟩ := h
    rfl
  · obtain ⟨a, ss, rfl, hS, hL, hz, k⟩ := h
    refine ⟨_, pss_cons (ps_setDc (i := 1) (own := [("letter", 2)]) (g := gName 2) (tt := tYes) rfl scInOrder.nd rfl rfl (sw_dict rfl rfl rfl (by decide +kernel)) (pi_seq (pv 0))
        (blkOk_by (own := [("letter", 2)]) (N := ["letters", "found", "letter"]) (sc := defScope (topS 7)) (by decide +kernel)) (fun _ _ _ _ _ => pg_name (i := 2) scInOrder.nd rfl (.inl rfl)) (fun _ _ _ _ _ => pts_nil) (fun _ _ _ _ _ => pv 2) (fun _ _ _ _ _ => pe_bl))
      (pss_one (ps_ret (pe_callBK (cr_sortKey (key_letter Dk mi) hr (fun x y _ _ => rfl) (fun x _ => ⟨_, _, rfl⟩) (fun x _ => show (keyN x).depth ≤ 8 from (by decide : (1 : Nat) ≤ 8)) ) (by rfl) ms (by decide +kernel)
        (pa_cons (pe_callTy (call_list_dK (by rfl)) (by rfl) ml (by decide +kernel) (pa_cons (pv 1) pa_nil)) pa_nil) (pk_cons (pe_glob (v := .ref fk) rfl Dk.g rfl) pk_nil)))), ?_⟩
    refine q_asgD (kvs := tkv (dd ss)) ?_ fun p H1 hp e1 h1 => ?_
    · have e := made_tkv (ss := ss) ss.length (Nat.le_refl _)
      rw [List.take_length] at e
      rw [← e]
      have e2 : ss.length = (ss.map V.str).length := (List.length_map _).symm
      rw [e2]
      exact ed_dcSq (K := K) (fun i => Sum.inr (ss.getD i Str.empty)) (fun _ => V.bl true) (ev_var rfl) hS (by rw [List.length_map]; omega) (fun x => rfl) (fun i x H1 _ _ => fun H2 e Q q => q H2 (Ex.refl H2)) (fun i x H1 _ hx => by rw [(at_str hx).2.1]; exact ev_var rfl) (fun i x H1 _ _ => ev_c)
    · refine el_cb (ea_cons (ev_var rfl) ea_nil) (rcl_listD h1) H1 (Ex.refl H1) _ fun q H2 hq e2 h2 => ?_
      rw [tkv_keys] at h2
      exact ⟨q, dd ss, rfl, rfl, sq_of h2, fun x hx => hL x (dd_mem.mp hx), fun r hr => k r _ (fresh_back (e1.trans e2) hr) ((e1.trans e2).trans (Ex.new hr)) upd_same⟩
end
end K00
-- D7
namespace K00
open PySem PySem.Spec PyProof.Rows L2 Evl KEv TL KDd KSq KDc KKey KTxt KTupD
def Words (ws : List Str) : Prop := ws ≠ [] ∧ ws.length ≤ 400 ∧ ∀ x ∈ ws, 1 ≤ x.length ∧ x.length ≤ 30 ∧ 32 ∉ tl x
def capHead (x : Str) : Bool := headIn (tl capitals) (tl x)
def fl (ws : List Str) : List Str := dd (ws.filter capHead)
theorem fl_snoc (ws : List Str) (x : Str) : fl (ws ++ [x]) = if capHead x then addS (fl ws) x else fl ws := by
  unfold fl
  rw [List.filter_append]
  cases h : capHead x with
  | true =>
    have e : [x].filter capHead = [x] := by simp [h]
    rw [e, dd_snoc]
    rfl
  | false =>
    have e : [x].filter capHead = [] := by simp [h]
    rw [e, List.append_nil]
    rfl
theorem fl_len (ws : List Str) : (fl ws).length ≤ ws.length := Nat.le_trans dd_len (List.length_filter_le ..)
abbrev txt (ws : List Str) : Str := Txt.join (" " : Str) ws
theorem Words.len {ws : List Str} (h : Words ws) : (txt ws).length ≤ 13000 := by
  have h1 := txt_len ws
  have h2 := sum_le (ws := ws) (m := 30) fun x hx => (h.2.2 x hx).2.1
  have h3 := h.2.1
  have h4 := Nat.mul_le_mul_right 30 h3
  show (Txt.join (" " : Str) ws).length ≤ _
  omega
theorem Words.back {ws : List Str} (h : Words ws) : Txt.split (txt ws) (" " : Str) = ws := split_back h.1 fun x hx => (h.2.2 x hx).2.2
def RetU (xs : List V) (H : Hp) (Q : VK) : Prop := ∀ p H2, H p = none → Ex H H2 → H2 p = some (.tup xs) → Q (.ref p) H2
def RetD (kvs : List (Key × V)) (H : Hp) (Q : VK) : Prop := ∀ p H2, H p = none → Ex H H2 → H2 p = some (.dK kvs) → Q (.ref p) H2
theorem take_flat {rows : List (List Str)} {i : Nat} {ws : List Str} (h : rows[i]? = some ws) : (rows.take (i + 1)).flatten = (rows.take i).flatten ++ ws := by
  rw [List.take_add_one, h, List.flatten_append]
  simp
theorem flat_len {rows : List (List Str)} (h : ∀ ws ∈ rows, ws.length ≤ 400) : rows.flatten.length ≤ rows.length * 400 := by
  induction rows with
  | nil => simp
  | cons ws r ih =>
    have h1 := h ws List.mem_cons_self
    have h2 := ih fun x hx => h x (List.mem_cons_of_mem _ hx)
    rw [List.flatten_cons, List.length_append, List.length_cons, Nat.add_mul]
    omega
section
variable {P : Program} {w : World} {K : PySem.W.Frag} {mg : Str → Option Value} {base : Heap}
/-! first_letters -/
def spFirst (K : PySem.W.Frag) : Sp := fun vs H Q _ => ∃ (a : Addr) (rows : List (List Str)), vs = [.ref a] ∧ Sq K H a ((rows.map txt).map V.str) ∧ rows.length ≤ 100 ∧ (∀ ws ∈ rows, Words ws) ∧ RetU ((fl rows.flatten).map V.str) H Q
theorem scFirst : FnScope ["texts", "found", "text", "word"] ["texts"] (defScope (topS 8)) := ⟨rfl, rfl, rfl, by decide +kernel, rfl, by decide +kernel, by decide +kernel⟩
theorem ok_first {f : Addr} {fd : FuncData} (D : DefAt K mg 8 "first_letters" ["texts"] f fd) (N : Nm mg) (mt : mg "tuple" = none) : FnOk P w K mg base CX0 1 f fd ["texts"] (spFirst K) := by
  obtain ⟨t1, gC⟩ := N.CAPITALS
  refine D.F.ok scFirst (fun vs H Q E h => ?_) (fun cdv A outer s H vs Q E hr h => ?_)
  · obtain ⟨a, rows, rfl, _⟩ := h
    rfl
  · obtain ⟨a, rows, rfl, hS, hz, hW, k⟩ := h
    have hu := hu_of hr
    refine ⟨_, pss_cons (ps_asg pe_dnewK (pg_name (i := 1) scFirst.nd rfl (.inl rfl)))
      (pss_cons (ps_for PassesOwn.never rfl (pi_seq (pv 0)) (pg_name (i := 2) scFirst.nd rfl (.inl rfl))
        (pss_one (ps_for PassesOwn.never rfl (pi_list (pe_splitS (pv 2) pe_str)) (pg_name (i := 3) scFirst.nd rfl (.inl rfl))
          (pss_one (ps_if (pt_cmpR op_isS (pe_ix ix_str (pv 3) pe_int (fun _ _ => rfl)) (pe_glob rfl gC relS) rfl) (pss_one (ps_dput hu (pv 1) (pv 3) pe_bl rfl)) pss_nil)))))
      (pss_one (ps_ret (pe_callTy (call_tupD (by rfl)) (by rfl) mt (by decide +kernel) (pa_cons (pv 1) pa_nil))))), ?_⟩
    refine q_asgD ed_new fun p H1 hp e1 h1 => ?_
    have hp0 : H p = none := hp
    have hall : ∀ n, (fl (rows.take n).flatten).length ≤ 40000 := fun n => by
      have z1 := fl_len (rows.take n).flatten
      have z2 := flat_len (rows := rows.take n) fun ws hw => (hW ws (List.mem_of_mem_take hw)).2.1
      have z3 : (rows.take n).length ≤ rows.length := by rw [List.length_take]; omega
      have z4 := Nat.mul_le_mul_right 400 z3
      omega
    refine q_forSqB (B := H) e1 (ev_var rfl) hS (fun i σ H2 => (∃ u v, σ = [some (.ref a), some (.ref p), u, v]) ∧ Ex H H2 ∧ H2 p = some (.dK (tkv (fl (rows.take i).flatten)))) (fun H2 e2 => ⟨⟨_, _, rfl⟩, e1.trans e2, e2 _ _ h1⟩) (fun i σ H2 q => q.2.1) (fun i x σ H2 hx q => ?_) (fun σ H2 q => ?_)
    · obtain ⟨⟨u, v, rfl⟩, e2, h2⟩ := q
      obtain ⟨ws, hws, rfl⟩ : ∃ ws, rows[i]? = some ws ∧ x = .str (txt ws) := by
        rw [List.getElem?_map, List.getElem?_map] at hx
        cases e : rows[i]? with
        | none =>
          rw [e] at hx
          cases hx
        | some ws =>
          rw [e] at hx
          exact ⟨ws, rfl, (Option.some.inj hx).symm⟩
      have hi : i < rows.length := (List.getElem?_eq_some_iff.mp hws).1
      have W := hW ws (List.mem_of_getElem? hws)
      have hsplit := el_split (σ := [some (.ref a), some (.ref p), some (.str (txt ws)), v]) (H := H) (to := tVar 2) (te := tC (.str " ")) (a := txt ws) (b := " ") (ev_var rfl) ev_c rfl (by have := W.len; omega)
      rw [W.back] at hsplit
      refine s_forNB (B := H) e2 hsplit (fun j σ H3 => (∃ v, σ = [some (.ref a), some (.ref p), some (.str (txt ws)), v]) ∧ Ex H H3 ∧ H3 p = some (.dK (tkv (fl ((rows.take i).flatten ++ ws.take j))))) (fun H3 e3 => ⟨⟨_, rfl⟩, e2.trans e3, by rw [List.take_zero, List.append_nil]; exact e3 _ _ h2⟩) (fun _ => True) (fun _ _ => trivial) (fun _ _ _ _ => trivial) (fun l j x σ H3 _ hx q hl => ?_) (fun σ H3 q => ?_)
      · obtain ⟨⟨v, rfl⟩, e3, h3⟩ := q
        obtain ⟨hj, ex, hx2⟩ := at_str hx
        subst ex
        clear hx
        have hx := hx2
        have hw := W.2.2 _ (List.mem_of_getElem? hx)
        clear hx2
        generalize hy : ws.getD j Str.empty = y at hx hw
        have hlp : l ≠ p := fun z => by
          rw [z, h3] at hl
          cases hl
        have hsn : fl ((rows.take i).flatten ++ ws.take (j + 1)) = if capHead y then addS (fl ((rows.take i).flatten ++ ws.take j)) y else fl ((rows.take i).flatten ++ ws.take j) := by
          rw [List.take_add_one, hx, ← List.append_assoc]
          exact fl_snoc _ _
        obtain ⟨c, hc⟩ : ∃ c r, tl y = c :: r := by
          cases e : tl y with
          | nil =>
            have := hw.1
            rw [len_tl, e] at this
            exact absurd this (by decide)
          | cons c r => exact ⟨c, r, rfl⟩
        obtain ⟨r, hc⟩ := hc
        have hcap : capHead y = decide (c ∈ tl capitals) := by
          unfold capHead
          rw [hc]
          rfl
        refine s_when (et_test (ev_op (ev_op (ev_var rfl) ev_c (rv_ixS (by omega) (c := c) (by rw [show y.cps.toList = c :: r from hc]; exact atI_nat (j := 0) rfl))) ev_c rv_isS)) (fun hb H4 e4 => ?_) (fun hb H4 e4 => ?_)
        · refine s_dput (k := Sum.inr y) ev_c (ev_var rfl) (ev_var rfl) (e4 _ _ h3) ?_ fun H5 e5 => ⟨⟨⟨_, rfl⟩, ((e3.trans e4).trans e5).mut hp0, ?_⟩, ?_⟩
          · rw [tkv_len]
            have z1 := fl_len ((rows.take i).flatten ++ ws.take j)
            have z2 := flat_len (rows := rows.take i) fun ws hw => (hW ws (List.mem_of_mem_take hw)).2.1
            have z3 : (rows.take i).length ≤ 100 := by rw [List.length_take]; omega
            have z4 := Nat.mul_le_mul_right 400 z3
            have z5 := W.2.1
            rw [List.length_append, List.length_take] at z1
            omega
          · rw [put_tkv, hsn, hcap, show decide (c ∈ tl capitals) = true from hb, if_pos rfl]
            exact upd_same
          · rw [upd_ne hlp]
            exact e5 _ _ (e4 _ _ hl)
        · refine ⟨⟨⟨_, rfl⟩, e3.trans e4, ?_⟩, e4 _ _ hl⟩
          rw [hsn, hcap, show decide (c ∈ tl capitals) = false from hb, if_neg (by decide)]
          exact e4 _ _ h3
      · obtain ⟨⟨v, rfl⟩, e3, h3⟩ := q
        rw [List.length_map, List.take_length, ← take_flat hws] at h3
        exact ⟨⟨_, _, rfl⟩, e3, h3⟩
    · obtain ⟨⟨u, v, rfl⟩, e2, h2⟩ := q
      rw [List.length_map, List.length_map, List.take_length] at h2
      refine ⟨.ref p, rfl, p, _, rfl, .inl h2, fun q hq => ?_⟩
      rw [tkv_keys]
      exact k q _ (fresh_back e2 hq) (e2.trans (Ex.new hq)) upd_same
end
end K00
-- D8
namespace K00
open PySem PySem.Spec PyProof.Rows L2 Evl KEv TL KDd KSq KDc KKey KTxt KTupD KMaxD KEnumT
/-! free_number -/
def freeOf (ss : List Str) : Int := maxD 0 (ss.map fun x => (numOf x : Int) + 1)
theorem range_map {α β : Type} {g : α → β} {ss : List α} {d : α} : (List.range ss.length).map (fun i => g (ss.getD i d)) = ss.map g := by
  apply List.ext_getElem
  · simp
  · intro i h1 h2
    simp at h1
    simp [h1]
theorem yes_T {σ : L2.St} {H : Hp} : EvT tYes σ H true := fun H2 e Q q => q H2 (Ex.refl H2)
theorem el_is {te : TE} {σ : L2.St} {H : Hp} {xs ys : List V} (h : EvL te σ H xs) (e : xs = ys) : EvL te σ H ys := by rwa [← e]
theorem ed_is {te : TE} {σ : L2.St} {H : Hp} {xs ys : List (Key × V)} (h : EvD te σ H xs) (e : xs = ys) : EvD te σ H ys := by rwa [← e]
theorem ev_maxD {K : PySem.W.Frag} {tl tk : TE} {σ : L2.St} {H : Hp} {ns : List Int} {d : Int} (hl : EvL tl σ H (ns.map V.int)) (hk : Ev tk σ H (.int d)) : Ev (tCKw (rMaxDef K) (tCons tl tNil) (tCons tk tNil)) σ H (.int (maxD d ns)) := fun H1 e Q q =>
  hl H1 e _ fun p H2 hp e2 h2 => hk H2 (e.trans e2) _ fun H3 e3 => ⟨p, ns, d, rfl, rfl, sq_of (e3 _ _ h2), q H3 (e2.trans e3)⟩
section
variable {P : Program} {w : World} {K : PySem.W.Frag} {mg : Str → Option Value} {base : Heap}
def spFree (K : PySem.W.Frag) : Sp := fun vs H Q _ => ∃ (a : Addr) (ss : List Str), vs = [.ref a] ∧ Sq K H a (ss.map V.str) ∧ (∀ x ∈ ss, IsLet x) ∧ ss.length ≤ 1000 ∧ RetV (.int (freeOf ss)) H Q
theorem scFree : FnScope ["letters", "letter"] ["letters"] (defScope (topS 9)) := ⟨rfl, rfl, rfl, by decide +kernel, rfl, by decide +kernel, by decide +kernel⟩
theorem ok_free {f : Addr} {fd : FuncData} (D : DefAt K mg 9 "free_number" ["letters"] f fd) (mi : mg "int" = none) (mm : mg "max" = none) : FnOk P w K mg base CX0 1 f fd ["letters"] (spFree K) := by
  refine D.F.ok scFree (fun vs H Q E h => ?_) (fun cdv A outer s H vs Q E hr h => ?_)
  · obtain ⟨a, ss, rfl, _⟩ := h
    rfl
  · obtain ⟨a, ss, rfl, hS, hL, hz, k⟩ := h
    refine ⟨_, pss_one (ps_ret (pe_callBK (cr_maxDef (by rfl)) (by rfl) mm (by decide +kernel) (pa_cons (pe_lc (own := [("letter", 1)]) (g := gName 1) (tt := tYes) rfl scFree.nd (pi_seq (pv 0))
        (blkOk_by (own := [("letter", 1)]) (N := ["letters", "letter"]) (sc := defScope (topS 9)) (by decide +kernel)) (fun _ _ _ _ _ => pg_name (i := 1) scFree.nd rfl (.inl rfl)) (fun _ _ _ _ _ => pts_nil)
        (fun _ _ _ _ _ => pe_op op_add (pe_callTy call_intT (by rfl) mi (by decide +kernel) (pa_cons (pe_slice sl_str (pv 1) (po_some pe_int) po_none) pa_nil)) pe_int)) pa_nil) (pk_cons pe_int pk_nil))), ?_⟩
    refine s_ret (ev_maxD (ns := ss.map fun x => (numOf x : Int) + 1) (el_is (el_lcSq (K := K) (fun _ => true) (fun i => .int ((numOf (ss.getD i Str.empty) : Int) + 1)) (ev_var rfl) hS (by rw [List.length_map]; omega) (fun x => rfl) (fun _ _ _ _ _ => yes_T) (fun i x H1 _ hx _ => ?_)) ?_) ev_c) fun H2 e2 => k H2 e2
    · obtain ⟨hi, ex, hx2⟩ := at_str hx
      subst ex
      have hl := hL _ (List.mem_of_getElem? hx2)
      generalize ss.getD i Str.empty = y at hl
      have := hl.pos
      have z := hl.num
      exact ev_op (ev_cb (ea_cons (ev_slS (ev_var rfl) (eo_some ev_c) eo_none (by omega)) ea_nil) (rc_intT z.1 (by omega))) ev_c rv_I0
    · rw [given_all fun _ _ => rfl, List.length_map, range_map (g := fun x : Str => V.int ((numOf x : Int) + 1)), List.map_map]
      rfl
end
end K00
-- D9
namespace K00
open PySem PySem.Spec PyProof.Rows L2 Evl KEv TL KDd KSq KDc KKey KTxt KTupD KMaxD KEnumT
/-! renamed -/
def nkv (nm : List (Str × Str)) : List (Key × V) := nm.map fun p => (Sum.inr p.1, V.str p.2)
def lookS (nm : List (Str × Str)) (x : Str) : Str := ((nm.find? fun p => decide (p.1 = x)).map (·.2)).getD x
theorem look_nkv (nm : List (Str × Str)) (x : Str) : (valV (nkv nm) (Sum.inr x)).getD (.str x) = .str (lookS nm x) := by
  unfold lookS
  induction nm with
  | nil => rfl
  | cons p r ih =>
    by_cases e : p.1 = x
    · have z := valV_pos (p := ((Sum.inr p.1 : Key), V.str p.2)) (r := nkv r) (k := Sum.inr x) (show (Sum.inr p.1 : Key) = Sum.inr x by rw [e])
      show (valV ((Sum.inr p.1, V.str p.2) :: nkv r) (Sum.inr x)).getD _ = _
      rw [z, List.find?_cons, decide_eq_true e]
      rfl
    · have z := valV_neg (p := ((Sum.inr p.1 : Key), V.str p.2)) (r := nkv r) (k := Sum.inr x) (fun z => e (Sum.inr.inj z))
      show (valV ((Sum.inr p.1, V.str p.2) :: nkv r) (Sum.inr x)).getD _ = _
      rw [z, ih, List.find?_cons, decide_eq_false e]
theorem look_len {nm : List (Str × Str)} (h : ∀ p ∈ nm, p.2.length ≤ 30) {x : Str} (hx : x.length ≤ 30) : (lookS nm x).length ≤ 30 := by
  unfold lookS
  cases e : nm.find? fun p => decide (p.1 = x) with
  | none => exact hx
  | some p => exact h p (List.mem_of_find?_eq_some e)
section
variable {P : Program} {w : World} {K : PySem.W.Frag} {mg : Str → Option Value} {base : Heap}
def spRenamed : Sp := fun vs H Q _ => ∃ (d : Addr) (nm : List (Str × Str)) (ws : List Str), vs = [.str (txt ws), .ref d] ∧ Words ws ∧ H d = some (.dK (nkv nm)) ∧ (∀ p ∈ nm, p.2.length ≤ 30) ∧ RetV (.str (txt (ws.map (lookS nm)))) H Q
theorem scRenamed : FnScope ["text", "names", "word"] ["text", "names"] (defScope (topS 10)) := ⟨rfl, rfl, rfl, by decide +kernel, rfl, by decide +kernel, by decide +kernel⟩
theorem ok_renamed {f : Addr} {fd : FuncData} (D : DefAt K mg 10 "renamed" ["text", "names"] f fd) : FnOk P w K mg base CX0 1 f fd ["text", "names"] spRenamed := by
  refine D.F.ok scRenamed (fun vs H Q E h => ?_) (fun cdv A outer s H vs Q E hr h => ?_)
  · obtain ⟨d, nm, ws, rfl, _⟩ := h
    rfl
  · obtain ⟨d, nm, ws, rfl, W, hd, hn, k⟩ := h
    have hu := hu_of hr
    refine ⟨_, pss_one (ps_ret (pe_joinS pe_str (pe_lc (own := [("word", 2)]) (g := gName 2) (tt := tYes) rfl scRenamed.nd (pi_list (pe_splitS (pv 0) pe_str))
        (blkOk_by (own := [("word", 2)]) (N := ["text", "names", "word"]) (sc := defScope (topS 10)) (by decide +kernel)) (fun _ _ _ _ _ => pg_name (i := 2) scRenamed.nd rfl (.inl rfl)) (fun _ _ _ _ _ => pts_nil)
        (fun _ _ _ _ _ => pe_dget2 hu (pv 1) (pv 2) (pv 2) ⟨rfl, rfl, rfl, rfl⟩)))), ?_⟩
    refine s_ret (ev_joinL (ys := ws.map (lookS nm)) ev_c (el_is (el_lcNL (K := K) (xs := ws.map V.str) (fun _ => true) (fun i => .str (lookS nm (ws.getD i Str.empty))) (el_is (el_split (ev_var rfl) ev_c rfl (by have := W.len; omega)) (by rw [W.back])) (by have := W.2.1; rw [List.length_map]; omega) (fun x => rfl) (fun _ _ _ _ _ => yes_T) (fun i x H1 e1 hx _ => ?_)) ?_) ?_) fun H2 e2 => k H2 e2
    · obtain ⟨hi, ex, hx2⟩ := at_str hx
      subst ex
      generalize ws.getD i Str.empty = y
      have := ev_get2 (σ := (wipe [some (.str (txt ws)), some (.ref d), none] [2]).set 2 (some (.str y))) (H := H1) (td := tVar 1) (ty := tVar 2) (tx := tVar 2) (k := Sum.inr y) (z := .str y) (ev_var rfl) (ev_var rfl) (ev_var rfl) (e1 _ _ hd)
      rw [look_nkv] at this
      exact this
    · rw [given_all fun _ _ => rfl, List.length_map, range_map (g := fun x : Str => V.str (lookS nm x)), List.map_map]
      rfl
    · have h1 := sum_le (ws := ws.map (lookS nm)) (m := 30) fun x hx => by
        obtain ⟨y, hy, rfl⟩ := List.mem_map.mp hx
        exact look_len hn (W.2.2 y hy).2.1
      have h2 := W.2.1
      rw [List.length_map] at h1 ⊢
      have e1 : (" " : Str).length = 1 := rfl
      rw [e1]
      omega
/-! canonical_names -/
theorem ed_dcEn {σ : L2.St} {H : Hp} {a : Addr} {xs : List V} {tl tk tv : TE} {j l : Nat} {vs : List Nat} (k : Nat → Key) (v : Nat → V) (h : Ev tl σ H (.ref a)) (hx : Sq K H a xs) (hz : xs.length ≤ 40000) (hw : ∀ x y, wipe (((wipe σ vs).set j (some x)).set l (some y)) vs = wipe σ vs)
    (hk : ∀ (i : Nat) (x : V) H1, Ex H H1 → xs[i]? = some x → Ev tk (((wipe σ vs).set j (some (.int (i : Int)))).set l (some x)) H1 (kV (k i)))
    (he : ∀ (i : Nat) (x : V) H1, Ex H H1 → xs[i]? = some x → Ev tv (((wipe σ vs).set j (some (.int (i : Int)))).set l (some x)) H1 (v i)) : EvD (tDc (iEnumS K (tCons tl tNil)) (gTup K 2 (gCons (gName j) (gCons (gName l) gNil))) tYes tk tv vs) σ H (madeK xs.length k v) := fun H0 e Q q =>
  ienum_go (h.mono e) (ex_sq e hx) fun J G H1 e1 hg w Dl hD =>
    dc_it w (Dw H1 k v Dl) ⟨hD, Ex.new hD, upd_same⟩ (fun i H' _ p => hg H' (e1.trans p.2.1)) (fun i x H2 H3 hi p y => by
      obtain ⟨T, x', y', rfl, hT, rfl, ex, ey⟩ := y
      obtain rfl := Option.some.inj ex
      have hT2 : T ≠ Dl := fun z => by
        rw [z, p.2.2] at hT
        cases hT
      have p2 : Dw H1 k v Dl i (upd H2 T (.tup [.int (i : Int), y'])) := ⟨p.1, p.2.1.trans (Ex.new hT), by rw [upd_ne (Ne.symm hT2)]; exact p.2.2⟩
      exact ⟨T, [.int (i : Int), y'], rfl, st_of upd_same, rfl, _, _, rfl, _, _, rfl, rfl, hw _ _, dw_turn p2 (by omega) yes_T (hk i y' H1 (e.trans e1) ey) (he i y' H1 (e.trans e1) ey)⟩)
    (fun H' p => q Dl H' (fresh_back e1 p.1) (e1.trans p.2.1) p.2.2)
def placeS (i : Nat) : Str := Str.ofString (toString (i : Int))
def canonV (ss : List Str) (i : Nat) : V := .str ((⟨#[capOf (ss.getD i Str.empty)]⟩ : Str) ++ placeS i)
def canonOf (ss : List Str) : List (Key × V) := madeK ss.length (fun i => Sum.inr (ss.getD i Str.empty)) (canonV ss)
def spCanon (K : PySem.W.Frag) : Sp := fun vs H Q _ => ∃ (a : Addr) (ss : List Str), vs = [.ref a] ∧ Sq K H a (ss.map V.str) ∧ (∀ x ∈ ss, IsLet x) ∧ ss.length ≤ 1000 ∧ RetD (canonOf ss) H Q
theorem scCanon : FnScope ["letters", "place", "letter"] ["letters"] (defScope (topS 11)) := ⟨rfl, rfl, rfl, by decide +kernel, rfl, by decide +kernel, by decide +kernel⟩
theorem ok_canon {f : Addr} {fd : FuncData} (D : DefAt K mg 11 "canonical_names" ["letters"] f fd) (me : mg "enumerate" = none) (ms : mg "str" = none) : FnOk P w K mg base CX0 1 f fd ["letters"] (spCanon K) := by
  refine D.F.ok scCanon (fun vs H Q E h => ?_) (fun cdv A outer s H vs Q E hr h => ?_)
  · obtain ⟨a, ss, rfl, _⟩ := h
    rfl
  · obtain ⟨a, ss, rfl, hS, hL, hz, k⟩ := h
    refine ⟨_, pss_one (ps_ret (pe_dc (own := [("place", 1), ("letter", 2)]) (g := gTup K 2 (gCons (gName 1) (gCons (gName 2) gNil))) (tt := tYes) rfl scCanon.nd (pi_enumS (by rfl) me (pa_cons (pv 0) pa_nil))
        (blkOk_by (own := [("place", 1), ("letter", 2)]) (N := ["letters", "place", "letter"]) (sc := defScope (topS 11)) (by decide +kernel))
        (fun _ _ _ _ _ => pg_tup rfl (pgs_cons (pg_name (i := 1) scCanon.nd rfl (.inl rfl)) (pgs_cons (pg_name (i := 2) scCanon.nd rfl (.inl rfl)) pgs_nil))) (fun _ _ _ _ _ => pts_nil)
        (fun _ _ _ _ _ => pv 2) (fun _ _ _ _ _ => pe_op op_addS (pe_ix ix_str (pv 2) pe_int (fun _ _ => rfl)) (pe_callTy call_strI (by rfl) ms (by decide +kernel) (pa_cons (pv 1) pa_nil))))), ?_⟩
    have e2 : ss.length = (ss.map V.str).length := (List.length_map _).symm
    refine s_retD (kvs := canonOf ss) (ed_is (ed_dcEn (K := K) (fun i => Sum.inr (ss.getD i Str.empty)) (canonV ss) (ev_var rfl) hS (by rw [List.length_map]; omega) (fun x y => rfl) (fun i x H1 e1 hx => ?_) (fun i x H1 e1 hx => ?_)) (by rw [← e2]; rfl)) fun p H2 hp e2 h2 => k p H2 hp e2 h2
    · obtain ⟨hi, ex, hx2⟩ := at_str hx
      subst ex
      exact ev_var rfl
    · obtain ⟨hi, ex, hx2⟩ := at_str hx
      subst ex
      have hl := hL _ (List.mem_of_getElem? hx2)
      have hc := hl.shape
      have hp := hl.pos
      unfold canonV
      generalize ss.getD i Str.empty = y at hl hc hp
      refine ev_op (ev_op (ev_var rfl) ev_c (rv_ixS (by omega) (c := capOf y) (by rw [show y.cps.toList = capOf y :: numL (numOf y) from hc]; exact atI_nat (j := 0) rfl))) (ev_cb (ea_cons (ev_var rfl) ea_nil) (rc_strI (by omega))) (rv_addS ?_)
      have z : (Str.ofString (toString (i : Int))).length ≤ 5 := by
        rw [len_tl, tl_num]
        exact numL_len (by decide) (by omega)
      have z1 : (⟨#[capOf y]⟩ : Str).length = 1 := rfl
      show (⟨#[capOf y]⟩ : Str).length + (Str.ofString (toString (i : Int))).length ≤ _
      omega
end
end K00
-- D10
namespace K00
open PySem PySem.Spec PyProof.Rows L2 Evl KEv TL KDd KSq KDc KKey KTxt KSame
/-! _law_same -/
/-- a truth value, a whole number or a text -/
def flatS : V → Bool
  | .bl _ => true
  | .int _ => true
  | .str _ => true
  | _ => false
structure NmS (mg : Str → Option Value) : Prop where
  isi : mg "isinstance" = none
  bool : mg "bool" = none
  int : mg "int" = none
  str : mg "str" = none
  dict : mg "dict" = none
  tuple : mg "tuple" = none
  list : mg "list" = none
  range : mg "range" = none
def spSame0 : Sp := fun vs H Q _ => ∃ x, vs = [x, x] ∧ flatS x = true ∧ RetV (.bl true) H Q
/-- two values that hold the same -/
inductive SameV (H : Hp) : V → V → Prop where
  | flat (x : V) (h : flatS x = true) : SameV H x x
  | lst (a b : Addr) (xs : List V) (h : ∀ x ∈ xs, flatS x = true) (hz : xs.length ≤ 10000) (ha : H a = some (.lst xs)) (hb : H b = some (.lst xs)) : SameV H (.ref a) (.ref b)
  | tup (a b : Addr) (xs : List V) (h : ∀ x ∈ xs, flatS x = true) (hz : xs.length ≤ 10000) (ha : H a = some (.tup xs)) (hb : H b = some (.tup xs)) : SameV H (.ref a) (.ref b)
  | dic (a b : Addr) (kvs : List (Key × V)) (h : ∀ p ∈ kvs, flatS p.2 = true) (hz : kvs.length ≤ 10000) (ha : H a = some (.dK kvs)) (hb : H b = some (.dK kvs)) : SameV H (.ref a) (.ref b)
def spSame : Sp := fun vs H Q _ => ∃ x y, vs = [x, y] ∧ SameV H x y ∧ RetV (.bl true) H Q
section
variable {P : Program} {w : World} {K : PySem.W.Frag} {mg : Str → Option Value} {base : Heap}
theorem scSame : FnScope ["told", "due", "key", "k"] ["told", "due"] (defScope (topS 15)) := ⟨rfl, rfl, rfl, by decide +kernel, rfl, by decide +kernel, by decide +kernel⟩
theorem ok_same0 {f : Addr} {fd : FuncData} (D : DefAt K mg 15 "_law_same" ["told", "due"] f fd) (M : NmS mg) : FnOk P w K mg base CX0 1 f fd ["told", "due"] spSame0 := by
  refine D.F.ok scSame (fun vs H Q E h => ?_) (fun cdv A outer s H vs Q E hr h => ?_)
  · obtain ⟨x, rfl, _⟩ := h
    rfl
  · obtain ⟨x, rfl, hx, k⟩ := h
    refine ⟨_, pss_cons (ps_if (PW.pt (pw_or (pt_val (pe_callB call_isi (by rfl) M.isi (by decide +kernel) (pa_cons (pv 0) (pa_cons (pe_bltn (v := .ty "bool") (by rfl) M.bool (by decide +kernel) rfl) pa_nil)))) (pw_or1 (pt_val (pe_callB call_isi (by rfl) M.isi (by decide +kernel) (pa_cons (pv 1) (pa_cons (pe_bltn (v := .ty "bool") (by rfl) M.bool (by decide +kernel) rfl) pa_nil))))))) (pss_one (ps_ret (pe_and (pe_callB call_isi (by rfl) M.isi (by decide +kernel) (pa_cons (pv 0) (pa_cons (pe_bltn (v := .ty "bool") (by rfl) M.bool (by decide +kernel) rfl) pa_nil))) (pe_and (pe_callB call_isi (by rfl) M.isi (by decide +kernel) (pa_cons (pv 1) (pa_cons (pe_bltn (v := .ty "bool") (by rfl) M.bool (by decide +kernel) rfl) pa_nil))) (pe_one (pe_cmpR op_eq (pv 0) (pv 1) (nomark _))))))) pss_nil) (pss_cons (ps_if (PW.pt (pw_or (pt_cmpR op_isNon (pv 0) pe_non (nomark _)) (pw_or1 (pt_cmpR op_isNon (pv 1) pe_non (nomark _))))) pss_never pss_nil) (pss_cons (ps_if (PW.pt (pw_or (pt_val (pe_callB call_isi (by rfl) M.isi (by decide +kernel) (pa_cons (pv 1) (pa_cons (pe_bltn (v := .ty "int") (by rfl) M.int (by decide +kernel) rfl) pa_nil)))) (pw_or1 (pt_val (pe_callB call_isi (by rfl) M.isi (by decide +kernel) (pa_cons (pv 1) (pa_cons (pe_bltn (v := .ty "str") (by rfl) M.str (by decide +kernel) rfl) pa_nil))))))) (pss_one (ps_ret (pe_and (pe_cmpR op_eq (pe_callB call_isi (by rfl) M.isi (by decide +kernel) (pa_cons (pv 0) (pa_cons (pe_bltn (v := .ty "int") (by rfl) M.int (by decide +kernel) rfl) pa_nil))) (pe_callB call_isi (by rfl) M.isi (by decide +kernel) (pa_cons (pv 1) (pa_cons (pe_bltn (v := .ty "int") (by rfl) M.int (by decide +kernel) rfl) pa_nil))) (nomark _)) (pe_and (pe_cmpR op_eq (pe_callB call_isi (by rfl) M.isi (by decide +kernel) (pa_cons (pv 0) (pa_cons (pe_bltn (v := .ty "str") (by rfl) M.str (by decide +kernel) rfl) pa_nil))) (pe_callB call_isi (by rfl) M.isi (by decide +kernel) (pa_cons (pv 1) (pa_cons (pe_bltn (v := .ty "str") (by rfl) M.str (by decide +kernel) rfl) pa_nil))) (nomark _)) (pe_one (pe_cmpR op_eq (pv 0) (pv 1) (nomark _))))))) pss_nil) pss_never)), ?_⟩
    cases x with
    | bl b =>
      have ty : ∀ H1, Ex H H1 → TyX K H1 (.bl b) (.type "bool") := fun H1 _ => .base (.bl b)
      refine q_when (b := true) (et_or (a := true) (b := true) (et_B (ev_isi (ev_var rfl) ty (by decide +kernel))) fun z => by cases z) (fun _ H1 e1 => ?_) (fun z => by cases z)
      have ty1 : ∀ H2, Ex H1 H2 → TyX K H2 (.bl b) (.type "bool") := fun H2 _ => .base (.bl b)
      exact s_ret (ev_is (ev_andV (a := true) (ev_isi (ev_var rfl) ty1 (by decide +kernel)) fun _ => ev_andV (a := true) (ev_isi (ev_var rfl) ty1 (by decide +kernel)) fun _ => ev_op (ev_var rfl) (ev_var rfl) (rv_eq rfl)) (by simp)) fun H2 e2 => k H2 (e1.trans e2)
    | int i =>
      have ty : ∀ H0 H1, Ex H0 H1 → TyX K H1 (.int i) (.type "int") := fun _ H1 _ => .base (.int i)
      refine q_when (b := false) (et_or (a := false) (b := false) (et_B (ev_isi (ev_var rfl) (ty H) (by decide +kernel))) fun _ => et_B (ev_isi (ev_var rfl) (ty H) (by decide +kernel))) (fun z => by cases z) (fun _ H1 e1 => ?_)
      refine q_when (b := false) (et_is (et_or (et_test (ev_op (ev_var rfl) ev_c rv_isN)) fun _ => et_test (ev_op (ev_var rfl) ev_c rv_isN)) (by simp)) (fun z => by cases z) (fun _ H2 e2 => ?_)
      refine q_when (b := true) (et_or (a := true) (b := true) (et_B (ev_isi (ev_var rfl) (ty H2) (by decide +kernel))) fun z => by cases z) (fun _ H3 e3 => ?_) (fun z => by cases z)
      exact s_ret (ev_is (ev_andV (a := true) (ev_is (ev_op (ev_isi (r := true) (ev_var rfl) (ty H3) (by decide +kernel)) (ev_isi (r := true) (ev_var rfl) (ty H3) (by decide +kernel)) (rv_eq rfl)) (by simp)) fun _ => ev_andV (a := true) (ev_is (ev_op (ev_isi (r := false) (ev_var rfl) (ty H3) (by decide +kernel)) (ev_isi (r := false) (ev_var rfl) (ty H3) (by decide +kernel)) (rv_eq rfl)) (by simp)) fun _ => ev_op (ev_var rfl) (ev_var rfl) (rv_eq rfl)) (by simp)) fun H4 e4 => k H4 (((e1.trans e2).trans e3).trans e4)
    | str y =>
      have ty : ∀ H0 H1, Ex H0 H1 → TyX K H1 (.str y) (.type "str") := fun _ H1 _ => .base (.str y)
      refine q_when (b := false) (et_or (a := false) (b := false) (et_B (ev_isi (ev_var rfl) (ty H) (by decide +kernel))) fun _ => et_B (ev_isi (ev_var rfl) (ty H) (by decide +kernel))) (fun z => by cases z) (fun _ H1 e1 => ?_)
      refine q_when (b := false) (et_is (et_or (et_test (ev_op (ev_var rfl) ev_c rv_isN)) fun _ => et_test (ev_op (ev_var rfl) ev_c rv_isN)) (by simp)) (fun z => by cases z) (fun _ H2 e2 => ?_)
      refine q_when (b := true) (et_or (a := false) (b := true) (et_B (ev_isi (ev_var rfl) (ty H2) (by decide +kernel))) fun _ => et_B (ev_isi (ev_var rfl) (ty H2) (by decide +kernel))) (fun _ H3 e3 => ?_) (fun z => by cases z)
      exact s_ret (ev_is (ev_andV (a := true) (ev_is (ev_op (ev_isi (r := false) (ev_var rfl) (ty H3) (by decide +kernel)) (ev_isi (r := false) (ev_var rfl) (ty H3) (by decide +kernel)) (rv_eq rfl)) (by simp)) fun _ => ev_andV (a := true) (ev_is (ev_op (ev_isi (r := true) (ev_var rfl) (ty H3) (by decide +kernel)) (ev_isi (r := true) (ev_var rfl) (ty H3) (by decide +kernel)) (rv_eq rfl)) (by simp)) fun _ => ev_op (ev_var rfl) (ev_var rfl) (rv_eq rfl)) (by simp)) fun H4 e4 => k H4 (((e1.trans e2).trans e3).trans e4)
    | _ => cases hx
theorem ok_same {f : Addr} {fd : FuncData} (D : DefAt K mg 15 "_law_same" ["told", "due"] f fd) (N : Nm mg) (M : NmS mg) : FnOk P w K mg base CX0 2 f fd ["told", "due"] spSame := by
  have G0 : FnOk P w K mg base CX0 1 f fd ["told", "due"] spSame0 := ok_same0 D M
  refine D.F.ok scSame (fun vs H Q E h => ?_) (fun cdv A outer s H vs Q E hr h => ?_)
  · obtain ⟨x, y, rfl, _⟩ := h
    rfl
  · obtain ⟨x, y, rfl, hS, k⟩ := h
    have hu := hu_of hr
    refine ⟨_, pss_cons (ps_if (PW.pt (pw_or (pt_val (pe_callB call_isi (by rfl) M.isi (by decide +kernel) (pa_cons (pv 0) (pa_cons (pe_bltn (v := .ty "bool") (by rfl) M.bool (by decide +kernel) rfl) pa_nil)))) (pw_or1 (pt_val (pe_callB call_isi (by rfl) M.isi (by decide +kernel) (pa_cons (pv 1) (pa_cons (pe_bltn (v := .ty "bool") (by rfl) M.bool (by decide +kernel) rfl) pa_nil))))))) (pss_one (ps_ret (pe_and (pe_callB call_isi (by rfl) M.isi (by decide +kernel) (pa_cons (pv 0) (pa_cons (pe_bltn (v := .ty "bool") (by rfl) M.bool (by decide +kernel) rfl) pa_nil))) (pe_and (pe_callB call_isi (by rfl) M.isi (by decide +kernel) (pa_cons (pv 1) (pa_cons (pe_bltn (v := .ty "bool") (by rfl) M.bool (by decide +kernel) rfl) pa_nil))) (pe_one (pe_cmpR op_eq (pv 0) (pv 1) (nomark _))))))) pss_nil) (pss_cons (ps_if (PW.pt (pw_or (pt_cmpR op_isNon (pv 0) pe_non (nomark _)) (pw_or1 (pt_cmpR op_isNon (pv 1) pe_non (nomark _))))) pss_never pss_nil) (pss_cons (ps_if (PW.pt (pw_or (pt_val (pe_callB call_isi (by rfl) M.isi (by decide +kernel) (pa_cons (pv 1) (pa_cons (pe_bltn (v := .ty "int") (by rfl) M.int (by decide +kernel) rfl) pa_nil)))) (pw_or1 (pt_val (pe_callB call_isi (by rfl) M.isi (by decide +kernel) (pa_cons (pv 1) (pa_cons (pe_bltn (v := .ty "str") (by rfl) M.str (by decide +kernel) rfl) pa_nil))))))) (pss_one (ps_ret (pe_and (pe_cmpR op_eq (pe_callB call_isi (by rfl) M.isi (by decide +kernel) (pa_cons (pv 0) (pa_cons (pe_bltn (v := .ty "int") (by rfl) M.int (by decide +kernel) rfl) pa_nil))) (pe_callB call_isi (by rfl) M.isi (by decide +kernel) (pa_cons (pv 1) (pa_cons (pe_bltn (v := .ty "int") (by rfl) M.int (by decide +kernel) rfl) pa_nil))) (nomark _)) (pe_and (pe_cmpR op_eq (pe_callB call_isi (by rfl) M.isi (by decide +kernel) (pa_cons (pv 0) (pa_cons (pe_bltn (v := .ty "str") (by rfl) M.str (by decide +kernel) rfl) pa_nil))) (pe_callB call_isi (by rfl) M.isi (by decide +kernel) (pa_cons (pv 1) (pa_cons (pe_bltn (v := .ty "str") (by rfl) M.str (by decide +kernel) rfl) pa_nil))) (nomark _)) (pe_one (pe_cmpR op_eq (pv 0) (pv 1) (nomark _))))))) pss_nil) (pss_cons (ps_if (pt_val (pe_callB call_isi (by rfl) M.isi (by decide +kernel) (pa_cons (pv 1) (pa_cons (pe_bltn (v := .ty "dict") (by rfl) M.dict (by decide +kernel) rfl) pa_nil)))) (pss_cons (ps_if (PW.pt (pw_or (pt_not (pt_val (pe_callB call_isi (by rfl) M.isi (by decide +kernel) (pa_cons (pv 0) (pa_cons (pe_bltn (v := .ty "dict") (by rfl) M.dict (by decide +kernel) rfl) pa_nil))))) (pw_or1 (pt_cmpR op_ne (pe_callB call_lenDk (by rfl) N.len PySem.boot_len (pa_cons (pv 0) pa_nil)) (pe_callB call_lenDk (by rfl) N.len PySem.boot_len (pa_cons (pv 1) pa_nil)) (nomark _))))) pss_never pss_nil) (pss_one (ps_ret (pe_lock (pe_notE (pe_lc (own := [("key", 2)]) (g := gName 2) rfl scSame.nd (pi_keys (pv 1)) (blkOk_by (own := [("key", 2)]) (N := ["told", "due", "key", "k"]) (sc := defScope (topS 15)) (by decide +kernel)) (fun _ _ _ _ _ => pg_name (i := 2) scSame.nd rfl (.inl rfl)) (fun _ _ _ _ _ => pts_one (PW.pt (pw_or (pt_cmp (pc_dnotin hu (pv 2) (pv 0))) (pw_or1 (pt_not (pt_val (pe_call G0 (hr.mono (by decide)) (by rfl) D.g D.F.kp D.b .nil pass0 (pa_cons (pe_dget hu (pv 0) (pv 2) (fun _ _ => rfl)) (pa_cons (pe_dget hu (pv 1) (pv 2) (fun _ _ => rfl)) pa_nil))))))))) (fun _ _ _ _ _ => pv 2))))))) pss_nil) (pss_cons (ps_if (PW.pt (pw_or (pt_cmpR op_ne (pe_callB call_isi (by rfl) M.isi (by decide +kernel) (pa_cons (pv 0) (pa_cons (pe_bltn (v := .ty "tuple") (by rfl) M.tuple (by decide +kernel) rfl) pa_nil))) (pe_callB call_isi (by rfl) M.isi (by decide +kernel) (pa_cons (pv 1) (pa_cons (pe_bltn (v := .ty "tuple") (by rfl) M.tuple (by decide +kernel) rfl) pa_nil))) (nomark _)) (pw_or1 (pt_cmpR op_ne (pe_callB call_isi (by rfl) M.isi (by decide +kernel) (pa_cons (pv 0) (pa_cons (pe_bltn (v := .ty "list") (by rfl) M.list (by decide +kernel) rfl) pa_nil))) (pe_callB call_isi (by rfl) M.isi (by decide +kernel) (pa_cons (pv 1) (pa_cons (pe_bltn (v := .ty "list") (by rfl) M.list (by decide +kernel) rfl) pa_nil))) (nomark _))))) pss_never pss_nil) (pss_cons (ps_if (PW.pt (pw_or (pt_not (pt_val (pe_callB call_isiT (by rfl) M.isi (by decide +kernel) (pa_cons (pv 0) (pa_cons (pe_tup (pa_cons (pe_bltn (v := .ty "tuple") (by rfl) M.tuple (by decide +kernel) rfl) (pa_cons (pe_bltn (v := .ty "list") (by rfl) M.list (by decide +kernel) rfl) pa_nil))) pa_nil))))) (pw_or1 (pt_cmpR op_ne (pe_callB call_len_seq (by rfl) N.len PySem.boot_len (pa_cons (pv 0) pa_nil)) (pe_callB call_len_seq (by rfl) N.len PySem.boot_len (pa_cons (pv 1) pa_nil)) (nomark _))))) pss_never pss_nil) (pss_one (ps_ret (pe_notE (pe_lc (own := [("k", 3)]) (g := gName 3) rfl scSame.nd (pi_range1 (by rfl) M.range (pa_cons (pe_callB call_len_seq (by rfl) N.len PySem.boot_len (pa_cons (pv 1) pa_nil)) pa_nil)) (blkOk_by (own := [("k", 3)]) (N := ["told", "due", "key", "k"]) (sc := defScope (topS 15)) (by decide +kernel)) (fun _ _ _ _ _ => pg_name (i := 3) scSame.nd rfl (.inl rfl)) (fun _ _ _ _ _ => pts_one (pt_not (pt_val (pe_call G0 (hr.mono (by decide)) (by rfl) D.g D.F.kp D.b .nil pass0 (pa_cons (pe_ix (r := rIx K) ix_seq (pv 0) (pv 3) (fun _ _ => rfl)) (pa_cons (pe_ix (r := rIx K) ix_seq (pv 1) (pv 3) (fun _ _ => rfl)) pa_nil)))))) (fun _ _ _ _ _ => pv 3)))))))))), ?_⟩
    cases hS with
    | flat x hx =>
      cases x with
      | bl b =>
        have ty : ∀ H1, Ex H H1 → TyX K H1 (.bl b) (.type "bool") := fun H1 _ => .base (.bl b)
        refine q_when (b := true) (et_or (a := true) (b := true) (et_B (ev_isi (ev_var rfl) ty (by decide +kernel))) fun z => by cases z) (fun _ H1 e1 => ?_) (fun z => by cases z)
        have ty1 : ∀ H2, Ex H1 H2 → TyX K H2 (.bl b) (.type "bool") := fun H2 _ => .base (.bl b)
        exact s_ret (ev_is (ev_andV (a := true) (ev_isi (ev_var rfl) ty1 (by decide +kernel)) fun _ => ev_andV (a := true) (ev_isi (ev_var rfl) ty1 (by decide +kernel)) fun _ => ev_op (ev_var rfl) (ev_var rfl) (rv_eq rfl)) (by simp)) fun H2 e2 => k H2 (e1.trans e2)
      | int i =>
        have ty : ∀ H0 H1, Ex H0 H1 → TyX K H1 (.int i) (.type "int") := fun _ H1 _ => .base (.int i)
        refine q_when (b := false) (et_or (a := false) (b := false) (et_B (ev_isi (ev_var rfl) (ty H) (by decide +kernel))) fun _ => et_B (ev_isi (ev_var rfl) (ty H) (by decide +kernel))) (fun z => by cases z) (fun _ H1 e1 => ?_)
        refine q_when (b := false) (et_is (et_or (et_test (ev_op (ev_var rfl) ev_c rv_isN)) fun _ => et_test (ev_op (ev_var rfl) ev_c rv_isN)) (by simp)) (fun z => by cases z) (fun _ H2 e2 => ?_)
        refine q_when (b := true) (et_or (a := true) (b := true) (et_B (ev_isi (ev_var rfl) (ty H2) (by decide +kernel))) fun z => by cases z) (fun _ H3 e3 => ?_) (fun z => by cases z)
        exact s_ret (ev_is (ev_andV (a := true) (ev_is (ev_op (ev_isi (r := true) (ev_var rfl) (ty H3) (by decide +kernel)) (ev_isi (r := true) (ev_var rfl) (ty H3) (by decide +kernel)) (rv_eq rfl)) (by simp)) fun _ => ev_andV (a := true) (ev_is (ev_op (ev_isi (r := false) (ev_var rfl) (ty H3) (by decide +kernel)) (ev_isi (r := false) (ev_var rfl) (ty H3) (by decide +kernel)) (rv_eq rfl)) (by simp)) fun _ => ev_op (ev_var rfl) (ev_var rfl) (rv_eq rfl)) (by simp)) fun H4 e4 => k H4 (((e1.trans e2).trans e3).trans e4)
      | str y =>
        have ty : ∀ H0 H1, Ex H0 H1 → TyX K H1 (.str y) (.type "str") := fun _ H1 _ => .base (.str y)
        refine q_when (b := false) (et_or (a := false) (b := false) (et_B (ev_isi (ev_var rfl) (ty H) (by decide +kernel))) fun _ => et_B (ev_isi (ev_var rfl) (ty H) (by decide +kernel))) (fun z => by cases z) (fun _ H1 e1 => ?_)
        refine q_when (b := false) (et_is (et_or (et_test (ev_op (ev_var rfl) ev_c rv_isN)) fun _ => et_test (ev_op (ev_var rfl) ev_c rv_isN)) (by simp)) (fun z => by cases z) (fun _ H2 e2 => ?_)
        refine q_when (b := true) (et_or (a := false) (b := true) (et_B (ev_isi (ev_var rfl) (ty H2) (by decide +kernel))) fun _ => et_B (ev_isi (ev_var rfl) (ty H2) (by decide +kernel))) (fun _ H3 e3 => ?_) (fun z => by cases z)
        exact s_ret (ev_is (ev_andV (a := true) (ev_is (ev_op (ev_isi (r := false) (ev_var rfl) (ty H3) (by decide +kernel)) (ev_isi (r := false) (ev_var rfl) (ty H3) (by decide +kernel)) (rv_eq rfl)) (by simp)) fun _ => ev_andV (a := true) (ev_is (ev_op (ev_isi (r := true) (ev_var rfl) (ty H3) (by decide +kernel)) (ev_isi (r := true) (ev_var rfl) (ty H3) (by decide +kernel)) (rv_eq rfl)) (by simp)) fun _ => ev_op (ev_var rfl) (ev_var rfl) (rv_eq rfl)) (by simp)) fun H4 e4 => k H4 (((e1.trans e2).trans e3).trans e4)
      | _ => cases hx
    | lst a b xs h hz ha hb =>
      have tya : ∀ H0, Ex H H0 → ∀ H1, Ex H0 H1 → TyX K H1 (.ref a) (.type "list") := fun H0 e H1 e1 => .base (.lst (e1 _ _ (e _ _ ha)))
      have tyb : ∀ H0, Ex H H0 → ∀ H1, Ex H0 H1 → TyX K H1 (.ref b) (.type "list") := fun H0 e H1 e1 => .base (.lst (e1 _ _ (e _ _ hb)))
      have sa : ∀ H0, Ex H H0 → Sq K H0 a xs := fun H0 e => .inl (sq_of (e _ _ ha))
      have sb : ∀ H0, Ex H H0 → Sq K H0 b xs := fun H0 e => .inl (sq_of (e _ _ hb))
      refine q_when (b := false) (et_or (a := false) (b := false) (et_B (ev_isi (ev_var rfl) (tya H (Ex.refl H)) (by decide +kernel))) fun _ => et_B (ev_isi (ev_var rfl) (tyb H (Ex.refl H)) (by decide +kernel))) (fun z => by cases z) (fun _ H1 e1 => ?_)
      refine q_when (b := false) (et_is (et_or (et_test (ev_op (ev_var rfl) ev_c rv_isN)) fun _ => et_test (ev_op (ev_var rfl) ev_c rv_isN)) (by simp)) (fun z => by cases z) (fun _ H2 e2 => ?_)
      have e2 := e1.trans e2
      refine q_when (b := false) (et_or (a := false) (b := false) (et_B (ev_isi (ev_var rfl) (tyb H2 e2) (by decide +kernel))) fun _ => et_B (ev_isi (ev_var rfl) (tyb H2 e2) (by decide +kernel))) (fun z => by cases z) (fun _ H3 e3 => ?_)
      have e3 := e2.trans e3
      refine q_when (b := false) (et_B (ev_isi (ev_var rfl) (tyb H3 e3) (by decide +kernel))) (fun z => by cases z) (fun _ H4 e4 => ?_)
      have e4 := e3.trans e4
      refine q_when (b := false) (et_is (et_or (et_test (ev_op (ev_isi (r := false) (ev_var rfl) (tya H4 e4) (by decide +kernel)) (ev_isi (r := false) (ev_var rfl) (tyb H4 e4) (by decide +kernel)) (rv_ne rfl))) fun _ => et_test (ev_op (ev_isi (r := true) (ev_var rfl) (tya H4 e4) (by decide +kernel)) (ev_isi (r := true) (ev_var rfl) (tyb H4 e4) (by decide +kernel)) (rv_ne rfl))) (by simp)) (fun z => by cases z) (fun _ H5 e5 => ?_)
      have e5 := e4.trans e5
      refine q_when (b := false) (et_is (et_or (et_not (et_B (ev_isiT2 (ev_var rfl) (tya H5 e5) (.inr ⟨by decide +kernel, by decide +kernel⟩)))) fun _ => et_test (ev_op (ev_lenSq (ev_var rfl) (sa H5 e5)) (ev_lenSq (ev_var rfl) (sb H5 e5)) (rv_ne rfl))) (by simp)) (fun z => by cases z) (fun _ H6 e6 => ?_)
      have e6 := e5.trans e6
      refine s_ret (ev_is (ev_notL (el_lcR1 (n := (xs.length : Int)) (fun _ => false) (fun i => .int (i : Int)) (ea_cons (ev_lenSq (ev_var rfl) (sb H6 e6)) ea_nil) (by omega) (fun x => rfl) (fun i H7 e7 hi => ?_) (fun i H7 _ _ z => by cases z))) (by rw [given_none fun _ _ => rfl]; rfl)) fun H7 e7 => k H7 (e6.trans e7)
      have e7 := e6.trans e7
      have hi2 : i < xs.length := by omega
      have hx : xs[i]? = some xs[i] := List.getElem?_eq_getElem hi2
      exact et_not (a := true) (et_B (ev_call (z := .bl true) (ea_cons (ev_op (ev_var rfl) (ev_var rfl) (rv_ixSq (sa H7 e7) (atI_nat hx))) (ea_cons (ev_op (ev_var rfl) (ev_var rfl) (rv_ixSq (sb H7 e7) (atI_nat hx))) ea_nil)) (fun H8 e8 Q q E => ⟨xs[i], rfl, h _ (List.getElem_mem _), fun H9 e9 => q H9 e9⟩)))
    | tup a b xs h hz ha hb =>
      have tya : ∀ H0, Ex H H0 → ∀ H1, Ex H0 H1 → TyX K H1 (.ref a) (.type "tuple") := fun H0 e H1 e1 => .base (.tup (e1 _ _ (e _ _ ha)))
      have tyb : ∀ H0, Ex H H0 → ∀ H1, Ex H0 H1 → TyX K H1 (.ref b) (.type "tuple") := fun H0 e H1 e1 => .base (.tup (e1 _ _ (e _ _ hb)))
      have sa : ∀ H0, Ex H H0 → Sq K H0 a xs := fun H0 e => .inr (st_of (e _ _ ha))
      have sb : ∀ H0, Ex H H0 → Sq K H0 b xs := fun H0 e => .inr (st_of (e _ _ hb))
      refine q_when (b := false) (et_or (a := false) (b := false) (et_B (ev_isi (ev_var rfl) (tya H (Ex.refl H)) (by decide +kernel))) fun _ => et_B (ev_isi (ev_var rfl) (tyb H (Ex.refl H)) (by decide +kernel))) (fun z => by cases z) (fun _ H1 e1 => ?_)
      refine q_when (b := false) (et_is (et_or (et_test (ev_op (ev_var rfl) ev_c rv_isN)) fun _ => et_test (ev_op (ev_var rfl) ev_c rv_isN)) (by simp)) (fun z => by cases z) (fun _ H2 e2 => ?_)
      have e2 := e1.trans e2
      refine q_when (b := false) (et_or (a := false) (b := false) (et_B (ev_isi (ev_var rfl) (tyb H2 e2) (by decide +kernel))) fun _ => et_B (ev_isi (ev_var rfl) (tyb H2 e2) (by decide +kernel))) (fun z => by cases z) (fun _ H3 e3 => ?_)
      have e3 := e2.trans e3
      refine q_when (b := false) (et_B (ev_isi (ev_var rfl) (tyb H3 e3) (by decide +kernel))) (fun z => by cases z) (fun _ H4 e4 => ?_)
      have e4 := e3.trans e4
      refine q_when (b := false) (et_is (et_or (et_test (ev_op (ev_isi (r := true) (ev_var rfl) (tya H4 e4) (by decide +kernel)) (ev_isi (r := true) (ev_var rfl) (tyb H4 e4) (by decide +kernel)) (rv_ne rfl))) fun _ => et_test (ev_op (ev_isi (r := false) (ev_var rfl) (tya H4 e4) (by decide +kernel)) (ev_isi (r := false) (ev_var rfl) (tyb H4 e4) (by decide +kernel)) (rv_ne rfl))) (by simp)) (fun z => by cases z) (fun _ H5 e5 => ?_)
      have e5 := e4.trans e5
      refine q_when (b := false) (et_is (et_or (et_not (et_B (ev_isiT2 (ev_var rfl) (tya H5 e5) (.inl (by decide +kernel))))) fun _ => et_test (ev_op (ev_lenSq (ev_var rfl) (sa H5 e5)) (ev_lenSq (ev_var rfl) (sb H5 e5)) (rv_ne rfl))) (by simp)) (fun z => by cases z) (fun _ H6 e6 => ?_)
      have e6 := e5.trans e6
      refine s_ret (ev_is (ev_notL (el_lcR1 (n := (xs.length : Int)) (fun _ => false) (fun i => .int (i : Int)) (ea_cons (ev_lenSq (ev_var rfl) (sb H6 e6)) ea_nil) (by omega) (fun x => rfl) (fun i H7 e7 hi => ?_) (fun i H7 _ _ z => by cases z))) (by rw [given_none fun _ _ => rfl]; rfl)) fun H7 e7 => k H7 (e6.trans e7)
      have e7 := e6.trans e7
      have hi2 : i < xs.length := by omega
      have hx : xs[i]? = some xs[i] := List.getElem?_eq_getElem hi2
      exact et_not (a := true) (et_B (ev_call (z := .bl true) (ea_cons (ev_op (ev_var rfl) (ev_var rfl) (rv_ixSq (sa H7 e7) (atI_nat hx))) (ea_cons (ev_op (ev_var rfl) (ev_var rfl) (rv_ixSq (sb H7 e7) (atI_nat hx))) ea_nil)) (fun H8 e8 Q q E => ⟨xs[i], rfl, h _ (List.getElem_mem _), fun H9 e9 => q H9 e9⟩)))
    | dic a b kvs h hz ha hb =>
      have tya : ∀ H0, Ex H H0 → ∀ H1, Ex H0 H1 → TyX K H1 (.ref a) (.type "dict") := fun H0 e H1 e1 => .base (.dK (e1 _ _ (e _ _ ha)))
      have tyb : ∀ H0, Ex H H0 → ∀ H1, Ex H0 H1 → TyX K H1 (.ref b) (.type "dict") := fun H0 e H1 e1 => .base (.dK (e1 _ _ (e _ _ hb)))
      refine q_when (b := false) (et_or (a := false) (b := false) (et_B (ev_isi (ev_var rfl) (tya H (Ex.refl H)) (by decide +kernel))) fun _ => et_B (ev_isi (ev_var rfl) (tyb H (Ex.refl H)) (by decide +kernel))) (fun z => by cases z) (fun _ H1 e1 => ?_)
      refine q_when (b := false) (et_is (et_or (et_test (ev_op (ev_var rfl) ev_c rv_isN)) fun _ => et_test (ev_op (ev_var rfl) ev_c rv_isN)) (by simp)) (fun z => by cases z) (fun _ H2 e2 => ?_)
      have e2 := e1.trans e2
      refine q_when (b := false) (et_or (a := false) (b := false) (et_B (ev_isi (ev_var rfl) (tyb H2 e2) (by decide +kernel))) fun _ => et_B (ev_isi (ev_var rfl) (tyb H2 e2) (by decide +kernel))) (fun z => by cases z) (fun _ H3 e3 => ?_)
      have e3 := e2.trans e3
      refine q_when (b := true) (et_B (ev_isi (ev_var rfl) (tyb H3 e3) (by decide +kernel))) (fun _ H4 e4 => ?_) (fun z => by cases z)
      have e4 := e3.trans e4
      refine q_when (b := false) (et_is (et_or (et_not (et_B (ev_isi (r := true) (ev_var rfl) (tya H4 e4) (by decide +kernel)))) fun _ => et_test (ev_op (ev_lenDk (ev_var rfl) (e4 _ _ ha)) (ev_lenDk (ev_var rfl) (e4 _ _ hb)) (rv_ne rfl))) (by simp)) (fun z => by cases z) (fun _ H5 e5 => ?_)
      have e5 := e4.trans e5
      refine s_ret (ev_lock (d := b) (u := .dK kvs) (v := .bl true) (e5 _ _ hb) trivial fun od H6 e6 h6 => ?_) fun H7 e7 => k H7 (e5.trans e7)
      have e6 := e5.trans e6
      have ra : Rd (upd H6 b (.frz od (.dK kvs))) a (.dK kvs) := by
        by_cases z : a = b
        · rw [z]
          exact .inr ⟨od, upd_same⟩
        · exact .inl (by rw [upd_ne z]; exact e6 _ _ ha)
      have rb : Rd (upd H6 b (.frz od (.dK kvs))) b (.dK kvs) := .inr ⟨od, upd_same⟩
      refine ev_is (ev_notL (el_lcK (fun _ => false) (fun _ => .non) (ev_var rfl) upd_same (by omega) (fun x => rfl) (fun i key u H7 e7 hk => ?_) (fun i key u H7 _ _ z => by cases z))) (by rw [given_none fun _ _ => rfl]; rfl)
      obtain ⟨v, hv, hm⟩ := valV_mem (List.mem_of_getElem? hk)
      refine et_is (et_or (et_B (ev_dnotin (ev_var rfl) (ev_var rfl) (ex_rd e7 ra))) (b := false) fun _ => et_not (a := true) (et_B (ev_call (z := .bl true) (ea_cons (ev_dgetR (ev_var rfl) (ev_var rfl) (ex_rd e7 ra) hv) (ea_cons (ev_dgetR (ev_var rfl) (ev_var rfl) (ex_rd e7 rb) hv) ea_nil)) (fun H8 e8 Q q E => ⟨v, rfl, h _ hm, fun H9 e9 => q H9 e9⟩)))) ?_
      rw [hv]
      rfl
end
end K00
-- D11
namespace K00
open PySem PySem.Spec PyProof.Rows L2 Evl KEv TL KDd KSq KD KSame NumText
/-! drawn texts -/
theorem ge_up {te : TE} {σ : L2.St} {B : Hp} {d : Addr} {R R' : V → Hp → Prop} (h : EvG te σ B d R) (hi : ∀ v B', Ex B B' → R v B' → R' v B') : EvG te σ B d R' := h.imp hi
section
variable {P : Program} {w : World} {K : PySem.W.Frag} {mg : Str → Option Value} {base : Heap}
/-! _law_character -/
abbrev spChar : Sp := spGen (fun rest _ => rest = []) (fun _ v _ => ∃ c, v = .str ⟨#[c]⟩)
def rUpper : V → List V → Hp → VK → Prop := fun x xs H Q => ∃ a, x = .str a ∧ xs = [] ∧ a.length ≤ 5592405 ∧ Q (.str (Txt.upper a)) H
def rLower : V → List V → Hp → VK → Prop := fun x xs H Q => ∃ a, x = .str a ∧ xs = [] ∧ a.length ≤ 5592405 ∧ Q (.str (Txt.lower a)) H
theorem pe_upperS {X : Cx} {o : Expr} {to : TE} {apos pos : Pos} (ho : PE X o to) (hbase : attributeBase o "upper" X.env (eval o X.env) = eval o X.env := by rfl) (hline : (apos.endLine == pos.line) = true := by rfl) : PE X (.Call (.Attribute o "upper" apos) [] [] pos) (tM0 rUpper to) := pe_upper ho hbase hline
theorem pe_lowerS {X : Cx} {o : Expr} {to : TE} {apos pos : Pos} (ho : PE X o to) (hbase : attributeBase o "lower" X.env (eval o X.env) = eval o X.env := by rfl) (hline : (apos.endLine == pos.line) = true := by rfl) : PE X (.Call (.Attribute o "lower" apos) [] [] pos) (tM0 rLower to) := pe_lower ho hbase hline
theorem ev_upper {to : TE} {σ : L2.St} {H : Hp} {a : Str} (h : Ev to σ H (.str a)) (hl : a.length ≤ 5592405) : Ev (tM0 rUpper to) σ H (.str (Txt.upper a)) := fun H1 e Q q => h H1 e _ fun H2 e2 => ⟨⟨a, rfl⟩, a, rfl, rfl, hl, q H2 e2⟩
theorem ev_lower {to : TE} {σ : L2.St} {H : Hp} {a : Str} (h : Ev to σ H (.str a)) (hl : a.length ≤ 5592405) : Ev (tM0 rLower to) σ H (.str (Txt.lower a)) := fun H1 e Q q => h H1 e _ fun H2 e2 => ⟨⟨a, rfl⟩, a, rfl, rfl, hl, q H2 e2⟩
theorem scChar : FnScope ["draws", "small", "menu"] ["draws"] (defScope (topS 16)) := ⟨rfl, rfl, rfl, by decide +kernel, rfl, by decide +kernel, by decide +kernel⟩
/-- a def that draws, to be called -/
structure GenAt (P : Program) (w : World) (K : PySem.W.Frag) (mg : Str → Option Value) (base : Heap) (n : Nat) (x : Str) (ps : List Str) (sp : Sp) (f : Addr) (fd : FuncData) : Prop where
  F : FnOk P w K mg base CX0 n f fd ps sp
  g : mg x = some (.ref f)
  kp : PySem.W.keepIn K (.ref f) = true
  b : Binds K fd ps []
theorem DefAt.gen {i n : Nat} {x : Str} {ps : List Str} {sp : Sp} {f : Addr} {fd : FuncData} (D : DefAt K mg i x ps f fd) (F : FnOk P w K mg base CX0 n f fd ps sp) : GenAt P w K mg base n x ps sp f fd := ⟨F, D.g, D.F.kp, D.b⟩
theorem len_app (a b : Str) : (a ++ b).length = a.length + b.length := by
  rw [len_tl, tl_append, List.length_append, ← len_tl, ← len_tl]
theorem ok_char {f ft : Addr} {fd fdt : FuncData} (D : DefAt K mg 16 "_law_character" ["draws"] f fd) (T : GenAt P w K mg base 1 "_law_take" ["draws", "many"] spTake ft fdt) (N : Nm mg) : FnOk P w K mg base CX0 2 f fd ["draws"] spChar := by
  refine D.F.ok scChar (fun vs H Q E h => ?_) (fun cdv A outer s H vs Q E hr h => ?_)
  · obtain ⟨d, rest, rfl, _, rfl, _⟩ := h
    rfl
  · obtain ⟨d, rest, rfl, hd, rfl, k⟩ := h
    refine ⟨_, pss_cons (ps_asg pe_str (pg_name (i := 1) scChar.nd rfl (.inl rfl)))
      (pss_cons (ps_asg (pe_op op_addS (pe_op op_addS (pe_op op_addS (pv 1) (pe_upperS (pv 1))) pe_str) pe_str) (pg_name (i := 2) scChar.nd rfl (.inl rfl)))
      (pss_one (ps_ret (pe_ix ix_str (pv 2) (pe_call T.F hr (by rfl) T.g T.kp T.b .nil pass0 (pa_cons (pv 0) (pa_cons (pe_callB call_lenT (by rfl) N.len PySem.boot_len (pa_cons (pv 2) pa_nil)) pa_nil))) (fun _ _ => rfl))))), ?_⟩
    have s0 := Sd.of hd
    refine q_asg ev_c fun H1 e1 => ?_
    have hup := PyProof.Rows.len_upper ("abcdefghijklmnopqrstuvwxyz" : Str)
    have h26 : ("abcdefghijklmnopqrstuvwxyz" : Str).length = 26 := by decide
    obtain ⟨M, hM, h1, h2⟩ : ∃ M : Str, M = (("abcdefghijklmnopqrstuvwxyz" : Str) ++ Txt.upper "abcdefghijklmnopqrstuvwxyz") ++ ("0123456789" : Str) ++ (" _-!#$&'()*+,./:;<=>?\x40[]^{|}~`\"\\\n\t" : Str) ∧ 1 ≤ M.length ∧ M.length ≤ 1000 := by
      refine ⟨_, rfl, ?_⟩
      have h10 : ("0123456789" : Str).length = 10 := by decide
      have hr : (" _-!#$&'()*+,./:;<=>?\x40[]^{|}~`\"\\\n\t" : Str).length ≤ 100 := by decide
      rw [len_app, len_app, len_app]
      omega
    refine q_asg (v := .str M) (ev_is (ev_op (ev_op (ev_op (ev_var rfl) (ev_upper (ev_var rfl) (by omega)) (rv_addS (by omega))) ev_c (rv_addS ?_)) ev_c (rv_addS ?_)) (by rw [hM])) fun H2 e2 => ?_
    · have h10 : ("0123456789" : Str).length = 10 := by decide
      rw [len_app]
      omega
    · have h10 : ("0123456789" : Str).length = 10 := by decide
      have hr : (" _-!#$&'()*+,./:;<=>?\x40[]^{|}~`\"\\\n\t" : Str).length ≤ 100 := by decide
      rw [len_app, len_app]
      omega
    · refine g_ret (eg_sign (w := M) (n := (M.length : Int)) (ev_var rfl) (eg_take (ev_var rfl) (ev_lenT (a := M) (ev_var rfl) (by omega)) (by omega)) (Int.le_refl _) (by omega)) ((s0.mono e1).mono e2) fun v B' H' e s' r => ?_
      obtain ⟨⟨c, rfl, _⟩, _⟩ := r
      exact k _ B' H' e s' ⟨c, rfl⟩
/-! _law_small -/
def lowS (x : Str) : Prop := ∀ c ∈ tl x, c ∈ tl ("abcdefghijklmnopqrstuvwxyz0123456789" : Str)
abbrev spSmall : Sp := spGen (fun rest _ => ∃ m : Nat, rest = [.int (m : Int)] ∧ m ≤ 100) (fun rest v _ => ∃ (m : Nat) (x : Str), rest = [.int (m : Int)] ∧ v = .str x ∧ x.length = m ∧ lowS x)
theorem scSmall : FnScope ["draws", "many", "text", "k"] ["draws", "many"] (defScope (topS 17)) := ⟨rfl, rfl, rfl, by decide +kernel, rfl, by decide +kernel, by decide +kernel⟩
theorem tl_one (c : Nat) : tl (⟨#[c]⟩ : Str) = [c] := rfl
theorem len_one (c : Nat) : (⟨#[c]⟩ : Str).length = 1 := rfl
theorem ok_small {f ft : Addr} {fd fdt : FuncData} (D : DefAt K mg 17 "_law_small" ["draws", "many"] f fd) (T : GenAt P w K mg base 1 "_law_take" ["draws", "many"] spTake ft fdt) (mr : mg "range" = none) (mi : mg "int" = none) : FnOk P w K mg base CX0 2 f fd ["draws", "many"] spSmall := by
  refine D.F.ok scSmall (fun vs H Q E h => ?_) (fun cdv A outer s H vs Q E hr h => ?_)
  · obtain ⟨d, rest, rfl, _, ⟨m, rfl, _⟩, _⟩ := h
    rfl
  · obtain ⟨d, rest, rfl, hd, ⟨m, rfl, hm⟩, k⟩ := h
    refine ⟨_, pss_cons (ps_asg pe_str (pg_name (i := 2) scSmall.nd rfl (.inl rfl)))
      (pss_cons (ps_for PassesOwn.never rfl (pi_range1 (by rfl) mr (pa_cons (pv 1) pa_nil)) (pg_name (i := 3) scSmall.nd rfl (.inl rfl))
        (pss_one (ps_asg (pe_op op_addS (pv 2) (pe_ix ix_str pe_str (pe_call T.F hr (by rfl) T.g T.kp T.b .nil pass0 (pa_cons (pv 0) (pa_cons (pe_op op_sub pe_int (pe_op op_mul pe_int (pe_callTy call_intI (by rfl) mi (by decide +kernel) (pa_cons (pe_cmpR op_eq (pv 3) pe_int (nomark _)) pa_nil)))) pa_nil))) (fun _ _ => rfl))) (pg_name (i := 2) scSmall.nd rfl (.inl rfl)))))
      (pss_one (ps_ret (pv 2)))), ?_⟩
    have s0 := Sd.of hd
    refine q_asg ev_c fun H1 e1 => ?_
    refine g_range (n := m) (B := hide H d) (d := d) (ea_cons (ev_var rfl) ea_nil) (s0.mono e1) (by omega) (fun i σ H2 => ∃ (B2 : Hp) (x : Str) (u : Option V), Ex (hide H d) B2 ∧ Sd B2 d H2 ∧ σ = [some (.ref d), some (.int (m : Int)), some (.str x), u] ∧ x.length = i ∧ lowS x)
      (fun H2 s2 => ⟨_, _, _, Ex.refl _, s2, rfl, rfl, fun c hc => absurd (show c ∈ ([] : List Nat) from hc) (by simp)⟩) (fun i σ H2 hi q => ?_) (fun σ H2 q => ?_)
    · obtain ⟨B2, x, u, e2, s2, rfl, hl, hx⟩ := q
      have hlen : ("abcdefghijklmnopqrstuvwxyz0123456789" : Str).length = 36 := by decide
      refine g_asg (R := fun v _ => ∃ c, v = .str (x ++ ⟨#[c]⟩) ∧ c ∈ tl ("abcdefghijklmnopqrstuvwxyz0123456789" : Str)) (eg_opV (ev_var rfl) (eg_signN (n := 36) (w := "abcdefghijklmnopqrstuvwxyz0123456789") ev_c (EvG.sd (eg_takeN (m := 36 - 10 * (if decide (V.int (i : Int) = V.int 0) = true then 1 else 0)) (ev_var rfl) (ev_op ev_c (ev_op ev_c (ev_cb (ea_cons (ev_op (ev_var rfl) ev_c (rv_eq rfl)) ea_nil) rc_intB) (rv_I (.inl ⟨by decide, by decide⟩))) rv_I0) (by split <;> decide)) fun v B' r => ?_) (by omega) (by omega)) fun y B4 _ hy => ?_) s2 fun v B' H' e s' r => ?_
      · obtain ⟨r, rfl, r1⟩ := r
        refine ⟨r, rfl, ?_⟩
        split at r1 <;> omega
      · obtain ⟨c, rfl, hc⟩ := hy
        exact ⟨_, rv_addS (by rw [len_one]; omega), c, rfl, hc⟩
      · obtain ⟨c, rfl, hc⟩ := r
        refine ⟨B', x ++ ⟨#[c]⟩, _, e2.trans e, s', rfl, by rw [len_app, len_one, hl], fun c2 hc2 => ?_⟩
        rw [tl_append, tl_one] at hc2
        rcases List.mem_append.mp hc2 with z | z
        · exact hx c2 z
        · rw [List.mem_singleton.mp z]
          exact hc
    · obtain ⟨B2, x, u, e2, s2, rfl, hl, hx⟩ := q
      exact s_ret (ev_var rfl) fun H3 e3 => k _ B2 H3 e2 (s2.mono e3) ⟨m, x, rfl, rfl, hl, hx⟩
end
end K00
-- D12
namespace K00
open PySem PySem.Spec PyProof.Rows L2 Evl KEv TL KDd KSq KD KSame NumText
/-! _law_letter -/
theorem numL_back {ds : List Nat} (h : AllDigits ds) (h0 : ds ≠ []) (h1 : ds.length = 1 ∨ ∃ e r, ds = e :: r ∧ 49 ≤ e) : numL (digitsVal ds) = ds := by
  obtain ⟨n, hn⟩ : ∃ n, ds.length = n + 1 := by
    cases ds with
    | nil => exact absurd rfl h0
    | cons a b => exact ⟨b.length, rfl⟩
  have z := toDigits_digitsVal n ds hn h (h1.imp (fun q => by omega) id)
  unfold numL
  rw [z, List.map_map]
  have e : ∀ c ∈ ds, (Char.toNat ∘ Char.ofNat) c = c := fun c hc => by
    have hc := h c hc
    have z : ∀ c, c < 58 → (Char.ofNat c).toNat = c := by decide
    exact z c (by omega)
  rw [List.map_congr_left e, List.map_id']
/-- a capital, then digits -/
def LetP (m : Nat) (x : Str) : Prop := IsLet x ∧ x.length = m + 1
theorem let_of {x : Str} {c : Nat} {ds : List Nat} (e : tl x = c :: ds) (hc : c ∈ tl capitals) (h : AllDigits ds) (h0 : ds ≠ []) (h1 : ds.length = 1 ∨ ∃ e r, ds = e :: r ∧ 49 ≤ e) (hl : ds.length ≤ 399) : LetP ds.length x := by
  have hx : x.length = ds.length + 1 := by rw [len_tl, e]; rfl
  exact ⟨⟨c, digitsVal ds, hc, by rw [numL_back h h0 h1]; exact e, by omega⟩, hx⟩
theorem d9 : ∀ c ∈ tl ("123456789" : Str), 49 ≤ c ∧ c ≤ 57 := by decide
theorem d10 : ∀ c ∈ tl ("0123456789" : Str), 48 ≤ c ∧ c ≤ 57 := by decide
section
variable {P : Program} {w : World} {K : PySem.W.Frag} {mg : Str → Option Value} {base : Heap}
abbrev spLetter : Sp := spGen (fun rest _ => ∃ m : Nat, rest = [.int (m : Int)] ∧ 1 ≤ m ∧ m ≤ 399) (fun rest v _ => ∃ (m : Nat) (x : Str), rest = [.int (m : Int)] ∧ v = .str x ∧ LetP m x)
theorem scLetter : FnScope ["draws", "many", "text", "k"] ["draws", "many"] (defScope (topS 18)) := ⟨rfl, rfl, rfl, by decide +kernel, rfl, by decide +kernel, by decide +kernel⟩
theorem ok_letter {f ft : Addr} {fd fdt : FuncData} (D : DefAt K mg 18 "_law_letter" ["draws", "many"] f fd) (T : GenAt P w K mg base 1 "_law_take" ["draws", "many"] spTake ft fdt) (mr : mg "range" = none) : FnOk P w K mg base CX0 2 f fd ["draws", "many"] spLetter := by
  refine D.F.ok scLetter (fun vs H Q E h => ?_) (fun cdv A outer s H vs Q E hr h => ?_)
  · obtain ⟨d, rest, rfl, _, ⟨m, rfl, _⟩, _⟩ := h
    rfl
  · obtain ⟨d, rest, rfl, hd, ⟨m, rfl, hm0, hm⟩, k⟩ := h
    refine ⟨_, pss_cons (ps_asg (pe_ix ix_str pe_str (pe_call T.F hr (by rfl) T.g T.kp T.b .nil pass0 (pa_cons (pv 0) (pa_cons pe_int pa_nil))) (fun _ _ => rfl)) (pg_name (i := 2) scLetter.nd rfl (.inl rfl)))
      (pss_cons (ps_for PassesOwn.never rfl (pi_range1 (by rfl) mr (pa_cons (pv 1) pa_nil)) (pg_name (i := 3) scLetter.nd rfl (.inl rfl))
        (pss_one (ps_if (PW.pt (pw_and (pt_cmpR op_eq (pv 3) pe_int (nomark _)) (pw_and1 (pt_cmpR op_gt (pv 1) pe_int (nomark _)))))
          (pss_one (ps_asg (pe_op op_addS (pv 2) (pe_ix ix_str pe_str (pe_call T.F hr (by rfl) T.g T.kp T.b .nil pass0 (pa_cons (pv 0) (pa_cons pe_int pa_nil))) (fun _ _ => rfl))) (pg_name (i := 2) scLetter.nd rfl (.inl rfl))))
          (pss_one (ps_asg (pe_op op_addS (pv 2) (pe_ix ix_str pe_str (pe_call T.F hr (by rfl) T.g T.kp T.b .nil pass0 (pa_cons (pv 0) (pa_cons pe_int pa_nil))) (fun _ _ => rfl))) (pg_name (i := 2) scLetter.nd rfl (.inl rfl)))))))
      (pss_one (ps_ret (pv 2)))), ?_⟩
    have s0 := Sd.of hd
    refine gq_asg (B := hide H d) (d := d) (eg_signN (n := 26) (w := capitals) ev_c (eg_takeN (m := 26) (ev_var rfl) ev_c (by decide)) (by decide) (by decide)) s0 fun v B1 H1 e1 s1 r => ?_
    obtain ⟨c0, rfl, hc0⟩ := r
    refine g_range (n := m) (B := B1) (d := d) (ea_cons (ev_var rfl) ea_nil) s1 (by omega) (fun i σ H2 => ∃ (B2 : Hp) (x : Str) (u : Option V) (c : Nat) (ds : List Nat), Ex (hide H d) B2 ∧ Sd B2 d H2 ∧ σ = [some (.ref d), some (.int (m : Int)), some (.str x), u] ∧ tl x = c :: ds ∧ c ∈ tl capitals ∧ AllDigits ds ∧ ds.length = i ∧ (m = 1 ∨ i = 0 ∨ ∃ e r, ds = e :: r ∧ 49 ≤ e))
      (fun H2 s2 => ⟨_, _, _, c0, [], e1, s2, rfl, rfl, hc0, fun c hc => absurd hc (by simp), rfl, .inr (.inl rfl)⟩) (fun i σ H2 hi q => ?_) (fun σ H2 q => ?_)
    · obtain ⟨B2, x, u, c, ds, e2, s2, rfl, ex, hc, hds, hl, hh⟩ := q
      have hxl : x.length = i + 1 := by rw [len_tl, ex, List.length_cons, hl]
      have fin : ∀ (B' H' : Hp) (e : Nat) (u : Option V), Ex B2 B' → Sd B' d H' → 48 ≤ e ∧ e ≤ 57 → (i = 0 ∧ 1 < m → 49 ≤ e) → ∃ (B2 : Hp) (x' : Str) (u' : Option V) (c : Nat) (ds : List Nat), Ex (hide H d) B2 ∧ Sd B2 d H' ∧ [some (.ref d), some (.int (m : Int)), some (.str (x ++ ⟨#[e]⟩)), u] = [some (.ref d), some (.int (m : Int)), some (.str x'), u'] ∧ tl x' = c :: ds ∧ c ∈ tl capitals ∧ AllDigits ds ∧ ds.length = i + 1 ∧ (m = 1 ∨ i + 1 = 0 ∨ ∃ e r, ds = e :: r ∧ 49 ≤ e) := fun B' H' e u eB sB he h9 => by
        refine ⟨B', _, _, c, ds ++ [e], e2.trans eB, sB, rfl, by rw [tl_append, ex]; rfl, hc, fun y hy => ?_, by rw [List.length_append, hl]; rfl, ?_⟩
        · rcases List.mem_append.mp hy with z | z
          · exact hds y z
          · rw [List.mem_singleton.mp z]
            exact he
        · by_cases hm1 : m = 1
          · exact .inl hm1
          · rcases hh with z | z | ⟨e', r, z, z2⟩
            · exact absurd z hm1
            · subst z
              have hn : ds = [] := List.length_eq_zero_iff.mp hl
              subst hn
              exact .inr (.inr ⟨e, [], rfl, h9 ⟨rfl, by omega⟩⟩)
            · exact .inr (.inr ⟨e', r ++ [e], by rw [z]; rfl, z2⟩)
      refine g_if (egt_lift (et_and (et_test (ev_op (ev_var rfl) ev_c (rv_eq rfl))) fun _ => et_test (ev_op (ev_var rfl) ev_c rv_I0))) s2 (fun B' H' e s' rt => ?_) (fun B' H' e s' rt => ?_)
      · refine g_asg (R := fun v _ => ∃ c, v = .str (x ++ ⟨#[c]⟩) ∧ c ∈ tl ("123456789" : Str)) (eg_opV (ev_var rfl) (eg_signN (n := 9) (w := "123456789") ev_c (eg_takeN (m := 9) (ev_var rfl) ev_c (by decide)) (by decide) (by decide)) fun y B4 _ hy => ?_) s' fun v B5 H5 e5 s5 r => ?_
        · obtain ⟨c, rfl, hc⟩ := hy
          exact ⟨_, rv_addS (by rw [len_one]; omega), c, rfl, hc⟩
        · obtain ⟨e9, rfl, h9⟩ := r
          have := d9 e9 h9
          exact fin B5 H5 e9 _ (e.trans e5) s5 ⟨by omega, this.2⟩ fun _ => this.1
      · refine g_asg (R := fun v _ => ∃ c, v = .str (x ++ ⟨#[c]⟩) ∧ c ∈ tl ("0123456789" : Str)) (eg_opV (ev_var rfl) (eg_signN (n := 10) (w := "0123456789") ev_c (eg_takeN (m := 10) (ev_var rfl) ev_c (by decide)) (by decide) (by decide)) fun y B4 _ hy => ?_) s' fun v B5 H5 e5 s5 r => ?_
        · obtain ⟨c, rfl, hc⟩ := hy
          exact ⟨_, rv_addS (by rw [len_one]; omega), c, rfl, hc⟩
        · obtain ⟨e9, rfl, h9⟩ := r
          refine fin B5 H5 e9 _ (e.trans e5) s5 (d10 e9 h9) fun z => ?_
          have zz := rt.1
          rw [z.1] at zz
          have : decide ((1 : Int) < (m : Int)) = true := decide_eq_true (by omega)
          rw [this] at zz
          exact absurd zz (by decide)
    · obtain ⟨B2, x, u, c, ds, e2, s2, rfl, ex, hc, hds, hl, hh⟩ := q
      refine s_ret (ev_var rfl) fun H3 e3 => k _ B2 H3 e2 (s2.mono e3) ⟨m, x, rfl, rfl, ?_⟩
      have z := let_of ex hc hds (fun z => by rw [z] at hl; simp at hl; omega) (hh.elim (fun z => .inl (by omega)) fun z => z.elim (fun z => by omega) .inr) (by omega)
      rw [hl] at z
      exact z
end
end K00
-- D13
namespace K00
open PySem PySem.Spec PyProof.Rows L2 Evl KEv TL KDd KSq KD KSame KTxt
/-! _law_text -/
def Nats (n lo hi : Nat) (us : List V) : Prop := us.length = n ∧ ∀ v ∈ us, ∃ k : Nat, v = .int (k : Int) ∧ lo ≤ k ∧ k ≤ hi
section
variable {σ : L2.St} {B : Hp} {d : Addr} {te to : TE} {tr : TA} {n lo hi : Nat}
theorem ega_natV (k : Nat) (h : Ev te σ B (.int (k : Int))) (hk : lo ≤ k ∧ k ≤ hi) (hr : EvGA tr σ B d fun us _ => Nats n lo hi us) : EvGA (tCons te tr) σ B d fun us _ => Nats (n + 1) lo hi us :=
  ega_sd (ega_consV h hr) fun us B' _ z => by
    obtain ⟨r, rfl, h1, h2⟩ := z
    refine ⟨by rw [List.length_cons, h1], fun v hv => ?_⟩
    rcases List.mem_cons.mp hv with rfl | hv
    · exact ⟨k, rfl, hk⟩
    · exact h2 v hv
theorem ega_natG (h : EvG te σ B d fun v _ => ∃ k : Nat, v = .int (k : Int) ∧ lo ≤ k ∧ k ≤ hi) : EvGA (tCons te tNil) σ B d fun us _ => Nats 1 lo hi us :=
  ega_sd (ega_one h) fun us B' _ z => by
    obtain ⟨v, rfl, z⟩ := z
    exact ⟨rfl, fun u hu => by rw [List.mem_singleton.mp hu]; exact z⟩
theorem ega_nat0 : EvGA tNil σ B d fun us _ => Nats 0 lo hi us := ega_sd ega_nil fun us B' _ z => by
  rw [z.1]
  exact ⟨rfl, fun v hv => absurd hv (by simp)⟩
theorem eg_joinG {K : PySem.W.Frag} {a : Str} {m : Nat} (ho : Ev to σ B (.str a)) (he : EvG te σ B d fun u B' => ∃ p, ∃ ys : List Str, u = .ref p ∧ B' p = some (.lst (ys.map V.str)) ∧ (ys.map (·.length)).sum + ys.length * a.length ≤ m) (hm : m ≤ 100000) : EvG (tM1 (rJoinS K) to te) σ B d fun u _ => ∃ x, u = .str x ∧ x.length ≤ m := fun H s Q q =>
  ho H s.ex _ fun H2 e2 => ⟨⟨a, rfl⟩, he H2 (s.mono e2) _ fun v B3 H3 e3 s3 r3 => by
    obtain ⟨p, ys, rfl, hp, hl⟩ := r3
    refine ⟨a, p, ys, rfl, rfl, .inl (sq_of (s3.ex _ _ hp)), by omega, q _ B3 H3 e3 s3 ⟨_, rfl, ?_⟩⟩
    rw [join_eq, len_tl]
    exact Nat.le_trans (join_len a ys) hl⟩
end
abbrev spText : Sp := spGen (fun rest _ => ∃ g : Bool, rest = [.bl g]) (fun _ v _ => ∃ x : Str, v = .str x ∧ x.length ≤ 1000)
theorem scText : FnScope ["draws", "great", "way", "sizes", "text", "spoil", "at", "k"] ["draws", "great"] (defScope (topS 19)) := ⟨rfl, rfl, rfl, by decide +kernel, rfl, by decide +kernel, by decide +kernel⟩
section
variable {P : Program} {w : World} {K : PySem.W.Frag} {mg : Str → Option Value} {base : Heap}
theorem ok_text {f ft fs fl fc : Addr} {fd fdt fds fdl fdc : FuncData} (D : DefAt K mg 19 "_law_text" ["draws", "great"] f fd) (T : GenAt P w K mg base 1 "_law_take" ["draws", "many"] spTake ft fdt) (S : GenAt P w K mg base 2 "_law_small" ["draws", "many"] spSmall fs fds) (L : GenAt P w K mg base 2 "_law_letter" ["draws", "many"] spLetter fl fdl)
    (C : GenAt P w K mg base 2 "_law_character" ["draws"] spChar fc fdc) (N : Nm mg) (mr : mg "range" = none) : FnOk P w K mg base CX0 3 f fd ["draws", "great"] spText := by
  refine D.F.ok scText (fun vs H Q E h => ?_) (fun cdv A outer s H vs Q E hr h => ?_)
  · obtain ⟨d, rest, rfl, _, ⟨g, rfl⟩, _⟩ := h
    rfl
  · obtain ⟨d, rest, rfl, hd, ⟨g, rfl⟩, k⟩ := h
    refine ⟨_, pss_cons (ps_asg (pe_call T.F (hr.mono (by decide)) (by rfl) T.g T.kp T.b .nil pass0 (pa_cons (pv 0) (pa_cons pe_int pa_nil))) (pg_name (i := 2) scText.nd rfl (.inl rfl))) (pss_cut (ps_if (pt_cmpR op_lt (pv 2) pe_int (nomark _)) (pss_cons (ps_asg (pe_lst (pa_cons pe_int (pa_cons pe_int (pa_cons pe_int (pa_cons pe_int (pa_cons pe_int (pa_cons pe_int (pa_cons pe_int (pa_cons pe_int (pa_cons pe_int (pa_cons (pe_call T.F (hr.mono (by decide)) (by rfl) T.g T.kp T.b .nil pass0 (pa_cons (pv 0) (pa_cons pe_int pa_nil))) pa_nil))))))))))) (pg_name (i := 3) scText.nd rfl (.inl rfl))) (pss_one (ps_asg (pe_call S.F (hr.mono (by decide)) (by rfl) S.g S.kp S.b .nil pass0 (pa_cons (pv 0) (pa_cons (pe_ix ix_list (pv 3) (pe_call T.F (hr.mono (by decide)) (by rfl) T.g T.kp T.b .nil pass0 (pa_cons (pv 0) (pa_cons pe_int pa_nil))) (fun _ _ => rfl)) pa_nil))) (pg_name (i := 4) scText.nd rfl (.inl rfl))))) (pss_one (ps_if (pt_cmpR op_lt (pv 2) pe_int (nomark _)) (pss_cons (ps_asg (pe_lst (pa_cons pe_int (pa_cons pe_int (pa_cons pe_int (pa_cons pe_int (pa_cons pe_int (pa_cons pe_int (pa_cons pe_int pa_nil)))))))) (pg_name (i := 3) scText.nd rfl (.inl rfl))) (pss_cut (ps_if (pt_val (pv 1)) (pss_one (ps_asg (pe_lst (pa_cons pe_int (pa_cons pe_int (pa_cons pe_int (pa_cons pe_int pa_nil))))) (pg_name (i := 3) scText.nd rfl (.inl rfl)))) pss_nil) (pss_one (ps_asg (pe_call L.F (hr.mono (by decide)) (by rfl) L.g L.kp L.b .nil pass0 (pa_cons (pv 0) (pa_cons (pe_ix ix_list (pv 3) (pe_call T.F (hr.mono (by decide)) (by rfl) T.g T.kp T.b .nil pass0 (pa_cons (pv 0) (pa_cons (pe_callB call_len_seq (by rfl) N.len PySem.boot_len (pa_cons (pv 3) pa_nil)) pa_nil))) (fun _ _ => rfl)) pa_nil))) (pg_name (i := 4) scText.nd rfl (.inl rfl)))))) (pss_one (ps_asg (pe_joinS pe_str (pe_lc (own := [("k", 7)]) (g := gName 7) (tt := tYes) rfl scText.nd (pi_range1 (by rfl) mr (pa_cons (pe_call T.F (hr.mono (by decide)) (by rfl) T.g T.kp T.b .nil pass0 (pa_cons (pv 0) (pa_cons pe_int pa_nil))) pa_nil)) (blkOk_by (own := [("k", 7)]) (N := ["draws", "great", "way", "sizes", "text", "spoil", "at", "k"]) (sc := defScope (topS 19)) (by decide +kernel)) (fun _ _ _ _ _ => pg_name (i := 7) scText.nd rfl (.inl rfl)) (fun _ _ _ _ _ => pts_nil) (fun _ _ _ _ _ => (pe_call C.F (hr.mono (by decide)) (by rfl) C.g C.kp C.b .nil pass0 (pa_cons (pv 0) pa_nil))))) (pg_name (i := 4) scText.nd rfl (.inl rfl))))))) (pss_cons (ps_asg (pe_call T.F (hr.mono (by decide)) (by rfl) T.g T.kp T.b .nil pass0 (pa_cons (pv 0) (pa_cons pe_int pa_nil))) (pg_name (i := 5) scText.nd rfl (.inl rfl))) (pss_cons (ps_asg (pe_call T.F (hr.mono (by decide)) (by rfl) T.g T.kp T.b .nil pass0 (pa_cons (pv 0) (pa_cons (pe_op op_add (pe_callB call_lenT (by rfl) N.len PySem.boot_len (pa_cons (pv 4) pa_nil)) pe_int) pa_nil))) (pg_name (i := 6) scText.nd rfl (.inl rfl))) (pss_cut (ps_if (pt_cmpR op_eq (pv 5) pe_int (nomark _)) (pss_one (ps_asg (pe_op op_addS (pe_op op_addS (pe_slice sl_str (pv 4) po_none (po_some (pv 6))) (pe_call C.F (hr.mono (by decide)) (by rfl) C.g C.kp C.b .nil pass0 (pa_cons (pv 0) pa_nil))) (pe_slice sl_str (pv 4) (po_some (pv 6)) po_none)) (pg_name (i := 4) scText.nd rfl (.inl rfl)))) (pss_one (ps_if (pt_cmpR op_eq (pv 5) pe_int (nomark _)) (pss_one (ps_asg (pe_op op_addS (pe_slice sl_str (pv 4) po_none (po_some (pv 6))) (pe_slice sl_str (pv 4) (po_some (pe_op op_add (pv 6) pe_int)) po_none)) (pg_name (i := 4) scText.nd rfl (.inl rfl)))) (pss_one (ps_if (pt_cmpR op_eq (pv 5) pe_int (nomark _)) (pss_one (ps_asg (pe_op op_addS (pe_op op_addS (pe_slice sl_str (pv 4) po_none (po_some (pv 6))) (pe_call C.F (hr.mono (by decide)) (by rfl) C.g C.kp C.b .nil pass0 (pa_cons (pv 0) pa_nil))) (pe_slice sl_str (pv 4) (po_some (pe_op op_add (pv 6) pe_int)) po_none)) (pg_name (i := 4) scText.nd rfl (.inl rfl)))) (pss_one (ps_if (pt_cmpR op_eq (pv 5) pe_int (nomark _)) (pss_one (ps_asg (pe_op op_addS (pe_op op_addS (pe_slice sl_str (pv 4) po_none (po_some pe_int)) pe_str) (pe_slice sl_str (pv 4) (po_some pe_int) po_none)) (pg_name (i := 4) scText.nd rfl (.inl rfl)))) (pss_one (ps_if (pt_cmpR op_eq (pv 5) pe_int (nomark _)) (pss_one (ps_asg (pe_op op_addS (pv 4) pe_str) (pg_name (i := 4) scText.nd rfl (.inl rfl)))) pss_nil))))))))) (pss_one (ps_ret (pv 4))))))), ?_⟩
    have s0 := Sd.of hd
    refine gq_asg (B := hide H d) (d := d) (eg_takeN (m := 5) (ev_var rfl) ev_c (by decide)) s0 fun v B1 H1 e1 s1 r => ?_
    obtain ⟨way, rfl, hway⟩ := r
    refine q_cut (M := fun σ H2 => ∃ (B2 : Hp) (x : Str) (u : Option V), Ex (hide H d) B2 ∧ Sd B2 d H2 ∧ σ = [some (.ref d), some (.bl g), some (.int (way : Int)), u, some (.str x), none, none, none] ∧ x.length ≤ 320) ?_ fun σ H2 q => ?_
    · refine g_if (egt_lift (et_test (ev_op (ev_var rfl) ev_c rv_I0))) s1 (fun B2 H2 e2 s2 _ => ?_) (fun B2 H2 e2 s2 _ => ?_)
      · refine gq_asg (eg_lst (Rs := fun us _ => Nats 10 0 30 us) (ega_natV 0 ev_c (by omega) (ega_natV 1 ev_c (by omega) (ega_natV 2 ev_c (by omega) (ega_natV 5 ev_c (by omega) (ega_natV 23 ev_c (by omega) (ega_natV 24 ev_c (by omega) (ega_natV 24 ev_c (by omega) (ega_natV 25 ev_c (by omega) (ega_natV 26 ev_c (by omega) (ega_natG (EvG.sd (eg_takeN (m := 31) (ev_var rfl) ev_c (by decide)) fun v _ r => ?_)))))))))))
          fun us _ r => by rw [r.1]; decide) s2 fun v B3 H3 e3 s3 r => ?_
        · obtain ⟨n, rfl, hn⟩ := r
          exact ⟨n, rfl, Nat.zero_le _, by omega⟩
        · obtain ⟨p, us, B4, rfl, _, _, _, rfl, hu⟩ := r
          refine g_asg (eg_call1 (R1 := fun v _ => ∃ n : Nat, v = .int (n : Int) ∧ n ≤ 30) (R := fun v _ => ∃ x : Str, v = .str x ∧ x.length ≤ 30) (ev_var rfl) (EvG.sd (eg_itemL (n := 10) (ev_var rfl) (sq_of upd_same) (eg_takeN (m := 10) (ev_var rfl) ev_c (by decide)) (by rw [hu.1]; decide)) fun v _ r => ?_) (fun v B5 H5 _ r _ => ?_) fun v u B5 B6 _ r _ c => ?_) s3 fun v B7 H7 e7 s7 r => ?_
          · obtain ⟨n, rfl, hn⟩ := hu.2 v r
            exact ⟨n, rfl, hn.2⟩
          · obtain ⟨n, rfl, hn⟩ := r
            exact ⟨n, rfl, by omega⟩
          · obtain ⟨n, rfl, hn⟩ := r
            obtain ⟨m, x, em, rfl, hl, _⟩ := c
            have : (n : Int) = (m : Int) := V.int.inj (List.cons.inj em).1
            exact ⟨x, rfl, by omega⟩
          · obtain ⟨x, rfl, hx⟩ := r
            exact ⟨B7, x, _, ((e1.trans e2).trans e3).trans e7, s7, rfl, by omega⟩
      · refine g_if (egt_lift (et_test (ev_op (ev_var rfl) ev_c rv_I0))) s2 (fun B3 H3 e3 s3 _ => ?_) (fun B3 H3 e3 s3 _ => ?_)
        · refine gq_asg (eg_lst (Rs := fun us _ => Nats 7 1 302 us) (ega_natV 1 ev_c (by omega) (ega_natV 2 ev_c (by omega) (ega_natV 8 ev_c (by omega) (ega_natV 9 ev_c (by omega) (ega_natV 9 ev_c (by omega) (ega_natV 10 ev_c (by omega) (ega_natV 11 ev_c (by omega) ega_nat0)))))))
            fun us _ r => by rw [r.1]; decide) s3 fun v B4 H4 e4 s4 r => ?_
          obtain ⟨p, us, B5, rfl, _, _, _, rfl, hu⟩ := r
          refine q_cut (M := fun σ H2 => ∃ (B2 : Hp) (p : Addr) (us : List V) (n : Nat), Ex (hide H d) B2 ∧ Sd B2 d H2 ∧ σ = [some (.ref d), some (.bl g), some (.int (way : Int)), some (.ref p), none, none, none, none] ∧ B2 p = some (.lst us) ∧ 1 ≤ n ∧ Nats n 1 302 us) ?_ fun σ H5 q => ?_
          · refine g_if (egt_lift (et_B (ev_var rfl))) s4 (fun B6 H6 e6 s6 _ => ?_) (fun B6 H6 e6 s6 _ => ?_)
            · refine g_asg (eg_lst (Rs := fun us _ => Nats 4 1 302 us) (ega_natV 299 ev_c (by omega) (ega_natV 300 ev_c (by omega) (ega_natV 301 ev_c (by omega) (ega_natV 302 ev_c (by omega) ega_nat0))))
                fun us _ r => by rw [r.1]; decide) s6 fun v B7 H7 e7 s7 r => ?_
              obtain ⟨p, us, B8, rfl, _, _, _, rfl, hu⟩ := r
              exact ⟨_, p, us, 4, ((((e1.trans e2).trans e3).trans e4).trans e6).trans e7, s7, rfl, upd_same, by omega, hu⟩
            · exact ⟨B6, p, us, 7, (((e1.trans e2).trans e3).trans e4).trans e6, s6, rfl, e6 _ _ upd_same, by omega, hu⟩
          · obtain ⟨B6, p, us, n, e6, s6, rfl, hp, hn, hu⟩ := q
            refine g_asg (eg_call1 (R1 := fun v _ => ∃ n : Nat, v = .int (n : Int) ∧ 1 ≤ n ∧ n ≤ 302) (R := fun v _ => ∃ x : Str, v = .str x ∧ x.length ≤ 303) (ev_var rfl) (EvG.sd (eg_itemL (n := (us.length : Int)) (ev_var rfl) (sq_of hp) (eg_takeN (m := (us.length : Int)) (ev_var rfl) (ev_len (ev_var rfl) (sq_of hp)) (by rw [hu.1]; omega)) (Int.le_refl _)) fun v _ r => hu.2 v r) (fun v B5 H5 _ r _ => ?_) fun v u B5 B6 _ r _ c => ?_) s6 fun v B7 H7 e7 s7 r => ?_
            · obtain ⟨n, rfl, hn⟩ := r
              exact ⟨n, rfl, by omega, by omega⟩
            · obtain ⟨n, rfl, hn⟩ := r
              obtain ⟨m, x, em, rfl, hl⟩ := c
              have : (n : Int) = (m : Int) := V.int.inj (List.cons.inj em).1
              exact ⟨x, rfl, by have := hl.2; omega⟩
            · obtain ⟨x, rfl, hx⟩ := r
              exact ⟨B7, x, _, e6.trans e7, s7, rfl, by omega⟩
        · refine g_asg (eg_joinG (m := 30) ev_c (EvG.sd (eg_lcR (n0 := 30) (Kp := fun _ v _ => ∃ c, v = .str ⟨#[c]⟩) (ega_sd (ega_one (eg_takeN (m := 31) (ev_var rfl) ev_c (by decide))) fun us _ _ r => ?_) (by decide) (fun x => rfl) (fun _ _ _ _ h _ => h) (fun _ _ _ _ h => h) (fun i L B4 _ _ => eg_call0 (ev_var rfl) (fun _ _ => rfl) fun u B5 _ r => r)) fun v B4 r => ?_) (by decide)) s3 fun v B4 H4 e4 s4 r => ?_
          · obtain ⟨v, rfl, n, rfl, hn⟩ := r
            exact ⟨n, rfl, by omega⟩
          · obtain ⟨p, xs, rfl, _, hp, hl, hx⟩ := r
            obtain ⟨ys, rfl, hy⟩ : ∃ ys : List Str, xs = ys.map V.str ∧ ∀ y ∈ ys, y.length ≤ 1 := by
              clear hp hl
              induction xs with
              | nil => exact ⟨[], rfl, fun y hy => absurd hy (by simp)⟩
              | cons v r ih =>
                obtain ⟨ys, h1, h2⟩ := ih fun x hx2 => hx x (List.mem_cons_of_mem _ hx2)
                obtain ⟨c, rfl⟩ := hx _ List.mem_cons_self
                refine ⟨⟨#[c]⟩ :: ys, by rw [h1]; rfl, fun y hy => ?_⟩
                rcases List.mem_cons.mp hy with rfl | hy
                · exact Nat.le_refl _
                · exact h2 y hy
            refine ⟨p, ys, rfl, hp, ?_⟩
            have h1 := sum_le hy
            rw [List.length_map] at hl
            have h2 : ("" : Str).length = 0 := rfl
            rw [h2]
            omega
          · obtain ⟨x, rfl, hx⟩ := r
            exact ⟨B4, x, _, (((e1.trans e2).trans e3).trans e4), s4, rfl, by omega⟩
    · obtain ⟨B2, x, u, e2, s2, rfl, hx⟩ := q
      refine gq_asg (B := B2) (d := d) (eg_takeN (m := 10) (ev_var rfl) ev_c (by decide)) s2 fun v B3 H3 e3 s3 r => ?_
      obtain ⟨spoil, rfl, _⟩ := r
      refine gq_asg (B := B3) (d := d) (eg_takeN (m := (x.length : Int) + 1) (ev_var rfl) (ev_op (ev_lenT (a := x) (ev_var rfl) (by omega)) ev_c rv_I0) (by omega)) s3 fun v B4 H4 e4 s4 r => ?_
      obtain ⟨at_, rfl, _⟩ := r
      have e4 := (e2.trans e3).trans e4
      have fin : ∀ (B' H' : Hp) (y : Str) (σ' : L2.St), Ex B4 B' → Sd B' d H' → y.length ≤ 1000 → σ' = [some (.ref d), some (.bl g), some (.int (way : Int)), u, some (.str y), some (.int (spoil : Int)), some (.int (at_ : Int)), none] → ∃ (B2 : Hp) (x : Str), Ex (hide H d) B2 ∧ Sd B2 d H' ∧ σ' = [some (.ref d), some (.bl g), some (.int (way : Int)), u, some (.str x), some (.int (spoil : Int)), some (.int (at_ : Int)), none] ∧ x.length ≤ 1000 := fun B' H' y σ' e s hy es => ⟨B', y, e4.trans e, s, es, hy⟩
      have c1 : ∀ lo hi, (cutS x lo hi).length ≤ 320 := fun lo hi => Nat.le_trans (cutS_length x lo hi) hx
      refine q_cut (M := fun σ H2 => ∃ (B2 : Hp) (x : Str), Ex (hide H d) B2 ∧ Sd B2 d H2 ∧ σ = [some (.ref d), some (.bl g), some (.int (way : Int)), u, some (.str x), some (.int (spoil : Int)), some (.int (at_ : Int)), none] ∧ x.length ≤ 1000) ?_ fun σ H5 q => ?_
      · refine g_if (egt_lift (et_test (ev_op (ev_var rfl) ev_c (rv_eq rfl)))) s4 (fun B5 H5 e5 s5 _ => ?_) (fun B5 H5 e5 s5 _ => ?_)
        · refine g_asg (R := fun v _ => ∃ y : Str, v = .str y ∧ y.length ≤ 641) (eg_opW (Rb := fun v _ => ∃ y : Str, v = .str y ∧ y.length ≤ 321) (eg_opV (Rb := fun v _ => ∃ c, v = .str ⟨#[c]⟩) (ev_slS (ev_var rfl) eo_none (eo_some (ev_var rfl)) (by omega)) (eg_call0 (ev_var rfl) (fun _ _ => rfl) fun u B5 _ r => r) fun y B6 _ hy => ?_) (fun v B6 _ _ => ev_slS (ev_var rfl) (eo_some (ev_var rfl)) eo_none (by omega)) fun v B6 _ hv => ?_) s5 fun v B7 H7 e7 s7 r => ?_
          · obtain ⟨c, rfl⟩ := hy
            exact ⟨_, rv_addS (by rw [len_one]; have := c1 none (some (at_ : Int)); omega), _, rfl, by rw [len_app, len_one]; have := c1 none (some (at_ : Int)); omega⟩
          · obtain ⟨y, rfl, hy⟩ := hv
            exact ⟨_, rv_addS (by have := c1 (some (at_ : Int)) none; omega), _, rfl, by rw [len_app]; have := c1 (some (at_ : Int)) none; omega⟩
          · obtain ⟨y, rfl, hy⟩ := r
            exact fin B7 H7 y _ (e5.trans e7) s7 (by omega) rfl
        refine g_if (egt_lift (et_test (ev_op (ev_var rfl) ev_c (rv_eq rfl)))) s5 (fun B6 H6 e6 s6 _ => ?_) (fun B6 H6 e6 s6 _ => ?_)
        · refine g_asg (eg_ev (ev_op (ev_slS (ev_var rfl) eo_none (eo_some (ev_var rfl)) (by omega)) (ev_slS (ev_var rfl) (eo_some (ev_op (ev_var rfl) ev_c rv_I0)) eo_none (by omega)) (rv_addS (by have := c1 none (some (at_ : Int)); have := c1 (some ((at_ : Int) + 1)) none; omega)))) s6 fun v B7 H7 e7 s7 r => ?_
          rw [r]
          exact fin B7 H7 _ _ ((e5.trans e6).trans e7) s7 (by rw [len_app]; have := c1 none (some (at_ : Int)); have := c1 (some ((at_ : Int) + 1)) none; omega) rfl
        refine g_if (egt_lift (et_test (ev_op (ev_var rfl) ev_c (rv_eq rfl)))) s6 (fun B7 H7 e7 s7 _ => ?_) (fun B7 H7 e7 s7 _ => ?_)
        · refine g_asg (R := fun v _ => ∃ y : Str, v = .str y ∧ y.length ≤ 641) (eg_opW (Rb := fun v _ => ∃ y : Str, v = .str y ∧ y.length ≤ 321) (eg_opV (Rb := fun v _ => ∃ c, v = .str ⟨#[c]⟩) (ev_slS (ev_var rfl) eo_none (eo_some (ev_var rfl)) (by omega)) (eg_call0 (ev_var rfl) (fun _ _ => rfl) fun u B5 _ r => r) fun y B6 _ hy => ?_) (fun v B6 _ _ => ev_slS (ev_var rfl) (eo_some (ev_op (ev_var rfl) ev_c rv_I0)) eo_none (by omega)) fun v B6 _ hv => ?_) s7 fun v B8 H8 e8 s8 r => ?_
          · obtain ⟨c, rfl⟩ := hy
            exact ⟨_, rv_addS (by rw [len_one]; have := c1 none (some (at_ : Int)); omega), _, rfl, by rw [len_app, len_one]; have := c1 none (some (at_ : Int)); omega⟩
          · obtain ⟨y, rfl, hy⟩ := hv
            exact ⟨_, rv_addS (by have := c1 (some ((at_ : Int) + 1)) none; omega), _, rfl, by rw [len_app]; have := c1 (some ((at_ : Int) + 1)) none; omega⟩
          · obtain ⟨y, rfl, hy⟩ := r
            exact fin B8 H8 y _ (((e5.trans e6).trans e7).trans e8) s8 (by omega) rfl
        have h0 : ("0" : Str).length = 1 := rfl
        have hn : ("\n" : Str).length = 1 := rfl
        refine g_if (egt_lift (et_test (ev_op (ev_var rfl) ev_c (rv_eq rfl)))) s7 (fun B8 H8 e8 s8 _ => ?_) (fun B8 H8 e8 s8 _ => ?_)
        · refine g_asg (eg_ev (ev_op (ev_op (ev_slS (ev_var rfl) eo_none (eo_some ev_c) (by omega)) ev_c (rv_addS (by have := c1 none (some 1); omega))) (ev_slS (ev_var rfl) (eo_some ev_c) eo_none (by omega)) (rv_addS (by rw [len_app]; have := c1 none (some 1); have := c1 (some 1) none; omega)))) s8 fun v B9 H9 e9 s9 r => ?_
          rw [r]
          exact fin B9 H9 _ _ ((((e5.trans e6).trans e7).trans e8).trans e9) s9 (by rw [len_app, len_app]; have := c1 none (some 1); have := c1 (some 1) none; omega) rfl
        refine g_if (egt_lift (et_test (ev_op (ev_var rfl) ev_c (rv_eq rfl)))) s8 (fun B9 H9 e9 s9 _ => ?_) (fun B9 H9 e9 s9 _ => ?_)
        · refine g_asg (eg_ev (ev_op (ev_var rfl) ev_c (rv_addS (a := x) (b := "\n") (by omega)))) s9 fun v B10 H10 e10 s10 r => ?_
          rw [r]
          exact fin B10 H10 _ _ (((((e5.trans e6).trans e7).trans e8).trans e9).trans e10) s10 (by rw [len_app]; omega) rfl
        · exact fin B9 H9 x _ ((((e5.trans e6).trans e7).trans e8).trans e9) s9 (by omega) rfl
      · obtain ⟨B6, y, e6, s6, rfl, hy⟩ := q
        exact s_ret (ev_var rfl) fun H7 e7 => k _ B6 H7 e6 (s6.mono e7) ⟨y, rfl, hy⟩
end
end K00
-- D14
namespace K00
open PySem PySem.Spec PyProof.Rows L2 Evl KEv TL KDd KSq KD KSame KTxt
/-! is_letter, called in three ways -/
abbrev LetD (K : PySem.W.Frag) (f : Addr) (fd : FuncData) : Prop := FunD K "is_letter" "is_letter" (defArgs (topS 5)) (defBody (topS 5)) (defScope (topS 5)) [.int 9] [] f fd
section
variable {K : PySem.W.Frag} {f : Addr} {fd : FuncData}
theorem let_b2 (F : LetD K f fd) : Binds K fd ["text", "digits"] [] := by
  obtain ⟨ds, h1, h2⟩ := F.binds1 (ps := ["text", "digits"]) 2 1 (by simp) rfl (fun T kV doc pm an cdv ct us its l1 l2 => match us, its, l1, l2 with | [_, _], [_], _, _ => ⟨_, rfl, rfl⟩)
  cases h1
  exact h2
theorem let_b1 (F : LetD K f fd) : ∃ ds, Vals [.int 9] ds ∧ Binds K fd ["text", "digits"] ds :=
  F.binds1 (ps := ["text", "digits"]) 1 0 (by simp) rfl (fun T kV doc pm an cdv ct us its l1 l2 => match us, its, l1, l2 with | [_], [_], _, _ => ⟨_, rfl, rfl⟩)
theorem let_bk (F : LetD K f fd) : KBn K fd ["text", "digits"] 1 ["digits"] (fun us ws => us ++ ws) (fun vs zs => vs ++ zs) := by
  obtain ⟨oc, od, dV, kV, doc, pm, an, cdv, ct, osl, rfl, lk, hcd, hD, hK⟩ := F.ex
  rcases hD with ⟨e, _⟩ | ⟨_, T, o, its, m, rfl, lT, oT, rT⟩
  · exact absurd e (by simp)
  · refine ⟨fun s us ws X l1 l2 => ?_, fun r1 r2 => r1.append r2⟩
    have l3 : its.length = 1 := rT.length.symm
    match us, its, ws, l1, l3, l2 with
    | [u], [i], [z], _, _, _ =>
      refine BindsTo.of_looks fun M => ?_
      exact looks_items (k := _) X lT oT (.of_pure rfl)
end
end K00
-- D15
namespace K00
open PySem PySem.Spec PyProof.Rows L2 Evl KEv TL KDd KSq KD KSame KTxt
/-! _law_text_told -/
theorem call_max2r {X : Cx} (hc : X.calm = true) : CallR X (.builtin "max") rMax2 := call_max2 hc
structure LetAt (P : Program) (w : World) (K : PySem.W.Frag) (mg : Str → Option Value) (base : Heap) (f : Addr) (fd : FuncData) : Prop where
  F : FnOk P w K mg base CX0 1 f fd ["text", "digits"] spIsLetter
  g : mg "is_letter" = some (.ref f)
  kp : PySem.W.keepIn K (.ref f) = true
  D : LetD K f fd
abbrev spTold : Sp := spGen (fun rest _ => ∃ x : Str, rest = [.str x] ∧ x.length ≤ 1000) (fun _ v _ => v = .bl true)
theorem scTold : FnScope ["draws", "text", "many"] ["draws", "text"] (defScope (topS 22)) := ⟨rfl, rfl, rfl, by decide +kernel, rfl, by decide +kernel, by decide +kernel⟩
section
variable {σ : L2.St} {B H : Hp} {d : Addr} {te ta tb : TE} {tr : TA} {tu tz : TS} {D : Ends} {K : PySem.W.Frag} {j : Nat}
def Ints (n : Nat) (us : List V) : Prop := us.length = n ∧ ∀ v ∈ us, ∃ i : Int, v = .int i
theorem Ints.cons {n : Nat} {i : Int} {r : List V} (h : Ints n r) : Ints (n + 1) (.int i :: r) := ⟨by rw [List.length_cons, h.1], fun v hv => (List.mem_cons.mp hv).elim (fun z => ⟨i, z⟩) (h.2 v)⟩
theorem ega_intV {n : Nat} {i : Int} (h : Ev te σ B (.int i)) (hr : EvGA tr σ B d fun us _ => Ints n us) : EvGA (tCons te tr) σ B d fun us _ => Ints (n + 1) us := ega_sd (ega_consV h hr) fun us B' _ z => by
  obtain ⟨r, rfl, h1⟩ := z
  exact h1.cons
theorem ega_intG {n : Nat} (h : EvG te σ B d fun v _ => ∃ n : Int, v = .int n) (hr : ∀ B1, EvGA tr σ B1 d fun us _ => Ints n us) : EvGA (tCons te tr) σ B d fun us _ => Ints (n + 1) us :=
  ega_cons (Rr := fun _ us _ => Ints n us) h (fun v B1 _ _ => hr B1) fun v us B1 B2 _ hv _ hu => by
    obtain ⟨i, rfl⟩ := hv
    exact hu.cons
theorem ega_int0 : EvGA tNil σ B d fun us _ => Ints 0 us := ega_sd ega_nil fun us B' _ z => by
  rw [z.1]
  exact ⟨rfl, fun v hv => absurd hv (by simp)⟩
/-- for x in a list that is drawn -/
theorem gq_for {Rs : List V → Hp → Prop} (h : EvG te σ B d fun u B' => ∃ p us, u = .ref p ∧ B' p = some (.lst us) ∧ Rs us B') (s : Sd B d H) (Pv : Addr → List V → Hp → Nat → L2.St → Hp → Prop) (h0 : ∀ p us B1 H1, Ex B B1 → Sd B1 d H1 → B1 p = some (.lst us) → Rs us B1 → Pv p us B1 0 σ H1)
    (hl : ∀ p us B1 i σ' H', Pv p us B1 i σ' H' → SqL K H' p us) (hs : ∀ p us B1 i x σ' H', Rs us B1 → us[i]? = some x → Pv p us B1 i σ' H' → tu { D with nx := Pv p us B1 (i + 1), ct := Pv p us B1 (i + 1), bk := tz D } (σ'.set j (some x)) H')
    (hd : ∀ p us B1 σ' H', Rs us B1 → Pv p us B1 us.length σ' H' → tz D σ' H') : tSeq (tFor (iList K te) (gName j) tu) tz D σ H := h H s _ fun v B1 H1 e1 s1 r1 => by
  obtain ⟨p, us, rfl, hp, hr⟩ := r1
  exact ⟨p, rfl, ⟨us, sq_of (s1.ex _ _ hp)⟩, for_it (D := { D with nx := tz D }) walk_list (Pv p us B1) (h0 p us B1 H1 e1 s1 hp hr) (fun i σ' H' _ z => hl p us B1 i σ' H' z) (fun i x σ' H2 H3 _ z y => by
    obtain ⟨rfl, hx⟩ := y
    exact hs p us B1 i x σ' _ hr hx z) fun σ' H' z => hd p us B1 σ' H' hr z⟩
theorem ev_name {x : Str} {E : XK} (hx : Ev ta σ H (.str x)) (hl : x.length ≤ 100000) : Ev (tCall spIsName [] E (tCons ta tNil)) σ H (.bl (nameB (tl x))) := ev_call (ea_cons hx ea_nil) fun H1 _ Q q E => ⟨x, rfl, hl, fun H2 e2 => q H2 e2⟩
theorem ev_let {x : Str} {n : Int} {E : XK} (hx : Ev ta σ H (.str x)) (hn : Ev tb σ H (.int n)) (hl : x.length ≤ 100000) : Ev (tCall spIsLetter [] E (tCons ta (tCons tb tNil))) σ H (.bl (letterB (tl x) n)) := ev_call (ea_cons hx (ea_cons hn ea_nil)) fun H1 _ Q q E => ⟨x, n, rfl, hl, fun H2 e2 => q H2 e2⟩
theorem ev_let9 {x : Str} {E : XK} (hx : Ev ta σ H (.str x)) (hl : x.length ≤ 100000) : Ev (tCall spIsLetter [.int 9] E (tCons ta tNil)) σ H (.bl (letterB (tl x) 9)) := ev_call (ea_cons hx ea_nil) fun H1 _ Q q E => ⟨x, 9, rfl, hl, fun H2 e2 => q H2 e2⟩
theorem ev_letk {x : Str} {n : Int} {E : XK} (hx : Ev ta σ H (.str x)) (hn : Ev tb σ H (.int n)) (hl : x.length ≤ 100000) : Ev (tCallN 1 1 spIsLetter (fun vs zs => vs ++ zs) E (tCons ta tNil) (tCons tb tNil)) σ H (.bl (letterB (tl x) n)) := fun H1 e Q q =>
  hx H1 e _ fun H2 e2 => hn H2 (e.trans e2) _ fun H3 e3 => ⟨rfl, rfl, x, n, rfl, hl, fun H4 e4 => q H4 ((e2.trans e3).trans e4)⟩
/-- the same flat value twice -/
theorem ev_same {v : V} {E : XK} (ha : Ev ta σ H v) (hb : Ev tb σ H v) (hv : flatS v = true) : Ev (tCall spSame [] E (tCons ta (tCons tb tNil))) σ H (.bl true) := ev_call (ea_cons ha (ea_cons hb ea_nil)) fun H1 _ Q q E => ⟨v, v, rfl, .flat v hv, fun H2 e2 => q H2 e2⟩
end
section
variable {P : Program} {w : World} {K : PySem.W.Frag} {mg : Str → Option Value} {base : Heap}
theorem ok_told {f ft fa fl fm fla fll : Addr} {fd fdt fda fdl fdm fdla fdll : FuncData} (D : DefAt K mg 22 "_law_text_told" ["draws", "text"] f fd) (T : GenAt P w K mg base 1 "_law_take" ["draws", "many"] spTake ft fdt) (A : GenAt P w K mg base 1 "is_name" ["text"] spIsName fa fda) (L : LetAt P w K mg base fl fdl)
    (M : GenAt P w K mg base 2 "_law_same" ["told", "due"] spSame fm fdm) (LA : GenAt P w K mg base 1 "_law_is_name" ["text"] spIsName fla fdla) (LL : GenAt P w K mg base 1 "_law_is_letter" ["text", "many"] spIsLetter fll fdll) (N : Nm mg) (mm : mg "max" = none) : FnOk P w K mg base CX0 3 f fd ["draws", "text"] spTold := by
  obtain ⟨d9, hv9, hb9⟩ := let_b1 L.D
  refine D.F.ok scTold (fun vs H Q E h => ?_) (fun cdv A' outer s H vs Q E hr h => ?_)
  · obtain ⟨d, rest, rfl, _, ⟨x, rfl, _⟩, _⟩ := h
    rfl
  · obtain ⟨d, rest, rfl, hd, ⟨x, rfl, hx⟩, k⟩ := h
    refine ⟨_, pss_cons (ps_if (PW.pt (pw_or (pt_not (pt_val (pe_call M.F (hr.mono (by decide)) (by rfl) M.g M.kp M.b .nil pass0 (pa_cons (pe_call A.F (hr.mono (by decide)) (by rfl) A.g A.kp A.b .nil pass0 (pa_cons (pv 1) pa_nil)) (pa_cons (pe_call LA.F (hr.mono (by decide)) (by rfl) LA.g LA.kp LA.b .nil pass0 (pa_cons (pv 1) pa_nil)) pa_nil))))) (pw_or1 (pt_not (pt_val (pe_call M.F (hr.mono (by decide)) (by rfl) M.g M.kp M.b .nil pass0 (pa_cons (pe_call L.F (hr.mono (by decide)) (by rfl) L.g L.kp hb9 hv9 pass0 (pa_cons (pv 1) pa_nil)) (pa_cons (pe_call LL.F (hr.mono (by decide)) (by rfl) LL.g LL.kp LL.b .nil pass0 (pa_cons (pv 1) (pa_cons pe_int pa_nil))) pa_nil)))))))) (pss_one (ps_ret pe_bl)) pss_nil) (pss_cons (ps_for PassesOwn.never rfl (pi_list (pe_lst (pa_cons (pe_op op_add pe_int (pe_call T.F (hr.mono (by decide)) (by rfl) T.g T.kp T.b .nil pass0 (pa_cons (pv 0) (pa_cons pe_int pa_nil)))) (pa_cons pe_int (pa_cons (pe_callB (call_max2r (by rfl)) (by rfl) mm (by decide +kernel) (pa_cons pe_int (pa_cons (pe_op op_sub (pe_callB call_lenT (by rfl) N.len PySem.boot_len (pa_cons (pv 1) pa_nil)) pe_int) pa_nil))) (pa_cons (pe_callB (call_max2r (by rfl)) (by rfl) mm (by decide +kernel) (pa_cons pe_int (pa_cons (pe_op op_sub (pe_callB call_lenT (by rfl) N.len PySem.boot_len (pa_cons (pv 1) pa_nil)) pe_int) pa_nil))) (pa_cons pe_int (pa_cons (pe_op op_add (pe_callB call_lenT (by rfl) N.len PySem.boot_len (pa_cons (pv 1) pa_nil)) pe_int) pa_nil)))))))) (pg_name (i := 2) scTold.nd rfl (.inl rfl)) (pss_cons (ps_if (pt_not (pt_val (pe_call M.F (hr.mono (by decide)) (by rfl) M.g M.kp M.b .nil pass0 (pa_cons (pe_call L.F (hr.mono (by decide)) (by rfl) L.g L.kp (let_b2 L.D) .nil pass0 (pa_cons (pv 1) (pa_cons (pv 2) pa_nil))) (pa_cons (pe_call LL.F (hr.mono (by decide)) (by rfl) LL.g LL.kp LL.b .nil pass0 (pa_cons (pv 1) (pa_cons (pv 2) pa_nil))) pa_nil))))) (pss_one (ps_ret pe_bl)) pss_nil) (pss_one (ps_if (pt_not (pt_val (pe_call M.F (hr.mono (by decide)) (by rfl) M.g M.kp M.b .nil pass0 (pa_cons (pe_callN L.F (hr.mono (by decide)) (by rfl) L.g L.kp (let_bk L.D) pass0 (pa_cons (pv 1) pa_nil) (pk_cons (pv 2) pk_nil)) (pa_cons (pe_call LL.F (hr.mono (by decide)) (by rfl) LL.g LL.kp LL.b .nil pass0 (pa_cons (pv 1) (pa_cons (pv 2) pa_nil))) pa_nil))))) (pss_one (ps_ret pe_bl)) pss_nil)))) (pss_one (ps_ret (pe_and (pe_call M.F (hr.mono (by decide)) (by rfl) M.g M.kp M.b .nil pass0 (pa_cons (pe_call A.F (hr.mono (by decide)) (by rfl) A.g A.kp A.b .nil pass0 (pa_cons (pv 1) pa_nil)) (pa_cons (pe_call LA.F (hr.mono (by decide)) (by rfl) LA.g LA.kp LA.b .nil pass0 (pa_cons (pv 1) pa_nil)) pa_nil))) (pe_one (pe_call M.F (hr.mono (by decide)) (by rfl) M.g M.kp M.b .nil pass0 (pa_cons (pe_call L.F (hr.mono (by decide)) (by rfl) L.g L.kp hb9 hv9 pass0 (pa_cons (pv 1) pa_nil)) (pa_cons (pe_call LL.F (hr.mono (by decide)) (by rfl) LL.g LL.kp LL.b .nil pass0 (pa_cons (pv 1) (pa_cons pe_int pa_nil))) pa_nil)))))))), ?_⟩
    have s0 := Sd.of hd
    have hl : x.length ≤ 100000 := by omega
    refine q_when (b := false) (et_is (et_or (et_not (et_B (ev_same (ev_name (ev_var rfl) hl) (ev_name (ev_var rfl) hl) rfl))) fun _ => et_not (et_B (ev_same (ev_let9 (ev_var rfl) hl) (ev_let (ev_var rfl) ev_c hl) rfl))) rfl) (fun z => by cases z) (fun _ H1 e1 => ?_)
    refine gq_for (B := hide H d) (d := d) (Rs := fun us _ => ∀ v ∈ us, ∃ n : Int, v = .int n) ?_ (s0.mono e1) (fun p us B1 i σ H' => ∃ (B2 : Hp) (u : Option V), Ex (hide H d) B2 ∧ Sd B2 d H' ∧ B2 p = some (.lst us) ∧ σ = [some (.ref d), some (.str x), u]) (fun p us B1 H2 e2 s2 hp _ => ⟨B1, _, e2, s2, hp, rfl⟩) (fun p us B1 i σ H' q => ?_) (fun p us B1 i v σ H2 hr hv q => ?_) (fun p us B1 σ H2 hr q => ?_)
    · refine EvG.sd (eg_lst (Rs := fun us _ => Ints 6 us) (ega_intG (eg_opV (Rb := fun v _ => ∃ n : Nat, v = .int (n : Int) ∧ (n : Int) < 12) ev_c (eg_takeN (m := 12) (ev_var rfl) ev_c (by decide)) fun y B2 _ hy => ?_) fun B1 => ega_intV ev_c (ega_intV (ev_max2 ev_c (ev_op (ev_lenT (a := x) (ev_var rfl) (by omega)) ev_c rv_I0)) (ega_intV (ev_max2 ev_c (ev_op (ev_lenT (a := x) (ev_var rfl) (by omega)) ev_c rv_I0)) (ega_intV ev_c (ega_intV (ev_op (ev_lenT (a := x) (ev_var rfl) (by omega)) ev_c rv_I0) ega_int0))))) fun us _ z => by rw [z.1]; decide) fun v B1 r => ?_
      · obtain ⟨n, rfl, _⟩ := hy
        exact ⟨_, rv_I0, _, rfl⟩
      · obtain ⟨p, us, B2, rfl, _, _, _, rfl, hu⟩ := r
        exact ⟨p, us, rfl, upd_same, hu.2⟩
    · obtain ⟨B2, u, e2, s2, hp, rfl⟩ := q
      exact sq_of (s2.ex _ _ hp)
    · obtain ⟨B2, u, e2, s2, hp, rfl⟩ := q
      obtain ⟨n, rfl⟩ := hr v (List.mem_of_getElem? hv)
      refine q_when (b := false) (et_is (et_not (et_B (ev_same (ev_let (ev_var rfl) (ev_var rfl) hl) (ev_let (ev_var rfl) (ev_var rfl) hl) rfl))) rfl) (fun z => by cases z) (fun _ H3 e3 => ?_)
      refine s_when (b := false) (et_is (et_not (et_B (ev_same (ev_letk (ev_var rfl) (ev_var rfl) hl) (ev_let (ev_var rfl) (ev_var rfl) hl) rfl))) rfl) (fun z => by cases z) (fun _ H4 e4 => ?_)
      exact ⟨B2, _, e2, (s2.mono e3).mono e4, hp, rfl⟩
    · obtain ⟨B2, u, e2, s2, hp, rfl⟩ := q
      exact s_ret (ev_andV (ev_same (ev_name (ev_var rfl) hl) (ev_name (ev_var rfl) hl) rfl) fun _ => ev_same (ev_let9 (ev_var rfl) hl) (ev_let (ev_var rfl) ev_c hl) rfl) fun H3 e3 => k _ B2 H3 e2 (s2.mono e3) rfl
end
end K00
-- D16
namespace K00
open PySem PySem.Spec PyProof.Rows L2 Evl KEv TL KDd KSq KD KSame KTxt
/-! _law_row -/
def RowOk (x : Str) : Prop := IsLet x ∧ x.length ≤ 310
abbrev spRow : Sp := spGen (fun rest _ => ∃ g : Bool, rest = [.bl g]) (fun _ v B => ∃ p, ∃ ss : List Str, v = .ref p ∧ B p = some (.lst (ss.map V.str)) ∧ (∀ x ∈ ss, RowOk x) ∧ ss.length ≤ 50)
theorem eg_letter {σ : L2.St} {B : Hp} {d : Addr} {td te : TE} {E : XK} {n : Nat} (hd : Ev td σ B (.ref d)) (h : EvG te σ B d fun v _ => ∃ k : Nat, v = .int (k : Int) ∧ 1 ≤ k ∧ k ≤ n) (hn : n ≤ 399) : EvG (tCall spLetter [] E (tCons td (tCons te tNil))) σ B d fun v _ => ∃ x : Str, v = .str x ∧ IsLet x ∧ x.length ≤ n + 1 :=
  eg_call1 hd h (fun v B1 H1 _ r _ => by
    obtain ⟨k, rfl, h1, h2⟩ := r
    exact ⟨k, rfl, h1, by omega⟩) fun v u B1 B2 _ r _ c => by
    obtain ⟨k, rfl, h1, h2⟩ := r
    obtain ⟨m, x, em, rfl, hx⟩ := c
    have : (k : Int) = (m : Int) := V.int.inj (List.cons.inj em).1
    exact ⟨x, rfl, hx.1, by have := hx.2; omega⟩
/-- a capital and what stands behind another one's -/
theorem let_swap {c : Nat} {x : Str} (hc : c ∈ tl capitals) (hx : IsLet x) : IsLet ((⟨#[c]⟩ : Str) ++ cutS x (some 1) none) ∧ ((⟨#[c]⟩ : Str) ++ cutS x (some 1) none).length = x.length := by
  obtain ⟨c0, n, _, e, hl⟩ := hx
  have e2 : tl ((⟨#[c]⟩ : Str) ++ cutS x (some 1) none) = c :: numL n := by
    rw [tl_append, tl_cut1, e]
    rfl
  have e3 : ((⟨#[c]⟩ : Str) ++ cutS x (some 1) none).length = x.length := by
    rw [len_tl, e2, len_tl x, e]
    rfl
  exact ⟨⟨c, n, hc, e2, by omega⟩, e3⟩
theorem rep_tl (c n : Nat) : tl (repS ⟨#[c]⟩ n) = List.replicate n c := by
  unfold repS tl
  rw [List.toList_toArray]
  induction n with
  | zero => rfl
  | succ n ih =>
    rw [List.replicate_succ, List.flatten_cons, ih, List.replicate_succ]
    rfl
/-- nines, or a one and noughts, behind a capital -/
theorem let_nines {c n : Nat} (hc : c ∈ tl capitals) (h1 : 1 ≤ n) (h2 : n ≤ 10) : RowOk ((⟨#[c]⟩ : Str) ++ repS "9" n) := by
  have e2 : tl ((⟨#[c]⟩ : Str) ++ repS "9" n) = c :: List.replicate n 57 := by
    rw [tl_append, show ("9" : Str) = ⟨#[57]⟩ from rfl, rep_tl]
    rfl
  have z := let_of e2 hc (fun y hy => by rw [List.eq_of_mem_replicate hy]; omega) (fun z => by have := congrArg List.length z; rw [List.length_replicate] at this; simp at this; omega) (.inr (by
    obtain ⟨m, rfl⟩ : ∃ m, n = m + 1 := ⟨n - 1, by omega⟩
    exact ⟨57, List.replicate m 57, rfl, by omega⟩)) (by rw [List.length_replicate]; omega)
  exact ⟨z.1, by have := z.2; rw [List.length_replicate] at this; omega⟩
theorem let_ten {c n : Nat} (hc : c ∈ tl capitals) (h2 : n ≤ 10) : RowOk ((⟨#[c]⟩ : Str) ++ (("1" : Str) ++ repS "0" n)) := by
  have e2 : tl ((⟨#[c]⟩ : Str) ++ (("1" : Str) ++ repS "0" n)) = c :: 49 :: List.replicate n 48 := by
    rw [tl_append, tl_append, show ("0" : Str) = ⟨#[48]⟩ from rfl, rep_tl]
    rfl
  have z := let_of e2 hc (fun y hy => by
    rcases List.mem_cons.mp hy with rfl | hy
    · omega
    · rw [List.eq_of_mem_replicate hy]
      omega) (by simp) (.inr ⟨49, _, rfl, by omega⟩) (by rw [List.length_cons, List.length_replicate]; omega)
  exact ⟨z.1, by have := z.2; rw [List.length_cons, List.length_replicate] at this; omega⟩
theorem scRow : FnScope ["draws", "great", "row", "k", "way", "many", "both", "capital", "at"] ["draws", "great"] (defScope (topS 23)) := ⟨rfl, rfl, rfl, by decide +kernel, rfl, by decide +kernel, by decide +kernel⟩
section
variable {P : Program} {w : World} {K : PySem.W.Frag} {mg : Str → Option Value} {base : Heap}
theorem ok_row {f ft fl : Addr} {fd fdt fdl : FuncData} (D : DefAt K mg 23 "_law_row" ["draws", "great"] f fd) (T : GenAt P w K mg base 1 "_law_take" ["draws", "many"] spTake ft fdt) (L : GenAt P w K mg base 2 "_law_letter" ["draws", "many"] spLetter fl fdl) (N : Nm mg) (mr : mg "range" = none) : FnOk P w K mg base CX0 3 f fd ["draws", "great"] spRow := by
  refine D.F.ok scRow (fun vs H Q E h => ?_) (fun cdv A outer s H vs Q E hr h => ?_)
  · obtain ⟨d, rest, rfl, _, ⟨g, rfl⟩, _⟩ := h
    rfl
  · obtain ⟨d, rest, rfl, hd, ⟨g, rfl⟩, k⟩ := h
    refine ⟨_, pss_cons (ps_asg (pe_lst pa_nil) (pg_name (i := 2) scRow.nd rfl (.inl rfl))) (pss_cons (ps_for PassesOwn.never rfl (pi_range1 (by rfl) mr (pa_cons (pe_call T.F (hr.mono (by decide)) (by rfl) T.g T.kp T.b .nil pass0 (pa_cons (pv 0) (pa_cons pe_int pa_nil))) pa_nil)) (pg_name (i := 3) scRow.nd rfl (.inl rfl)) (pss_cons (ps_asg (pe_call T.F (hr.mono (by decide)) (by rfl) T.g T.kp T.b .nil pass0 (pa_cons (pv 0) (pa_cons pe_int pa_nil))) (pg_name (i := 4) scRow.nd rfl (.inl rfl))) (pss_one (ps_if (PW.pt (pw_and (pt_tru (pv 2)) (pw_and1 (pt_cmpR op_eq (pv 4) pe_int (nomark _))))) (pss_one (ps_expr (pe_bm PySem.F.plainAttrs_list PySem.F.slot_list_append PySem.F.type_list_append mt_append (pv 2) (pa_cons (pe_ix ix_list (pv 2) (pe_call T.F (hr.mono (by decide)) (by rfl) T.g T.kp T.b .nil pass0 (pa_cons (pv 0) (pa_cons (pe_callB call_len_seq (by rfl) N.len PySem.boot_len (pa_cons (pv 2) pa_nil)) pa_nil))) (fun _ _ => rfl)) pa_nil)))) (pss_one (ps_if (PW.pt (pw_and (pt_tru (pv 2)) (pw_and1 (pt_cmpR op_eq (pv 4) pe_int (nomark _))))) (pss_one (ps_expr (pe_bm PySem.F.plainAttrs_list PySem.F.slot_list_append PySem.F.type_list_append mt_append (pv 2) (pa_cons (pe_op op_addS (pe_ix ix_str (pe_ix ix_list (pv 2) (pe_un un_neg pe_int) (fun _ _ => rfl)) pe_int (fun _ _ => rfl)) (pe_slice sl_str (pe_call L.F (hr.mono (by decide)) (by rfl) L.g L.kp L.b .nil pass0 (pa_cons (pv 0) (pa_cons (pe_op op_add pe_int (pe_call T.F (hr.mono (by decide)) (by rfl) T.g T.kp T.b .nil pass0 (pa_cons (pv 0) (pa_cons pe_int pa_nil)))) pa_nil))) (po_some pe_int) po_none)) pa_nil)))) (pss_one (ps_if (pt_cmpR op_eq (pv 4) pe_int (nomark _)) (pss_cons (ps_asg (pe_op op_add pe_int (pe_call T.F (hr.mono (by decide)) (by rfl) T.g T.kp T.b .nil pass0 (pa_cons (pv 0) (pa_cons pe_int pa_nil)))) (pg_name (i := 5) scRow.nd rfl (.inl rfl))) (pss_cons (ps_asg (pe_lst (pa_cons (pe_op op_repS pe_str (pv 5)) (pa_cons (pe_op op_addS pe_str (pe_op op_repS pe_str (pv 5))) pa_nil))) (pg_name (i := 6) scRow.nd rfl (.inl rfl))) (pss_cons (ps_asg (pe_ix ix_str (pe_call L.F (hr.mono (by decide)) (by rfl) L.g L.kp L.b .nil pass0 (pa_cons (pv 0) (pa_cons pe_int pa_nil))) pe_int (fun _ _ => rfl)) (pg_name (i := 7) scRow.nd rfl (.inl rfl))) (pss_cons (ps_asg (pe_call T.F (hr.mono (by decide)) (by rfl) T.g T.kp T.b .nil pass0 (pa_cons (pv 0) (pa_cons pe_int pa_nil))) (pg_name (i := 8) scRow.nd rfl (.inl rfl))) (pss_cons (ps_expr (pe_bm PySem.F.plainAttrs_list PySem.F.slot_list_append PySem.F.type_list_append mt_append (pv 2) (pa_cons (pe_op op_addS (pv 7) (pe_ix ix_list (pv 6) (pv 8) (fun _ _ => rfl))) pa_nil))) (pss_one (ps_expr (pe_bm PySem.F.plainAttrs_list PySem.F.slot_list_append PySem.F.type_list_append mt_append (pv 2) (pa_cons (pe_op op_addS (pv 7) (pe_ix ix_list (pv 6) (pe_op op_sub pe_int (pv 8)) (fun _ _ => rfl))) pa_nil))))))))) (pss_one (ps_if (PW.pt (pw_and (pt_cmpR op_eq (pv 4) pe_int (nomark _)) (pw_and1 (pt_val (pv 1))))) (pss_one (ps_expr (pe_bm PySem.F.plainAttrs_list PySem.F.slot_list_append PySem.F.type_list_append mt_append (pv 2) (pa_cons (pe_call L.F (hr.mono (by decide)) (by rfl) L.g L.kp L.b .nil pass0 (pa_cons (pv 0) (pa_cons (pe_op op_add pe_int (pe_call T.F (hr.mono (by decide)) (by rfl) T.g T.kp T.b .nil pass0 (pa_cons (pv 0) (pa_cons pe_int pa_nil)))) pa_nil))) pa_nil)))) (pss_one (ps_expr (pe_bm PySem.F.plainAttrs_list PySem.F.slot_list_append PySem.F.type_list_append mt_append (pv 2) (pa_cons (pe_call L.F (hr.mono (by decide)) (by rfl) L.g L.kp L.b .nil pass0 (pa_cons (pv 0) (pa_cons (pe_ix ix_list (pe_lst (pa_cons pe_int (pa_cons pe_int (pa_cons pe_int (pa_cons pe_int (pa_cons pe_int (pa_cons pe_int pa_nil))))))) (pe_call T.F (hr.mono (by decide)) (by rfl) T.g T.kp T.b .nil pass0 (pa_cons (pv 0) (pa_cons pe_int pa_nil))) (fun _ _ => rfl)) pa_nil))) pa_nil)))))))))))))) (pss_one (ps_ret (pv 2)))), ?_⟩
    have s0 := Sd.of hd
    refine q_asgL (el_lst ea_nil (by decide)) fun p H1 hp e1 h1 => ?_
    have nb : (hide H d) p = none := fresh_back hide_ex hp
    have s1 : Sd (upd (hide H d) p (.lst [])) d H1 := (s0.mono e1).known (s0.ne hp) h1
    refine gq_range (m := 20) (d := d) (EvG.sd (eg_takeN (m := 21) (ev_var rfl) ev_c (by decide)) fun v _ r => ?_) s1 (by decide) (fun i σ H2 => ∃ (B2 : Hp) (ss : List Str) (u3 u4 u5 u6 u7 u8 : Option V), Ex (hide H d) B2 ∧ Sd B2 d H2 ∧ B2 p = some (.lst (ss.map V.str)) ∧ (∀ x ∈ ss, RowOk x) ∧ ss.length ≤ 2 * i ∧ σ = [some (.ref d), some (.bl g), some (.ref p), u3, u4, u5, u6, u7, u8])
      (fun B2 H2 e2 s2 => ⟨B2, [], _, _, _, _, _, _, (Ex.new nb).trans e2, s2, e2 _ _ upd_same, fun x hx => absurd hx (by simp), Nat.le_refl _, rfl⟩) (fun i σ H2 hi q => ?_) (fun n σ H2 hn q => ?_)
    · obtain ⟨n, rfl, hn⟩ := r
      exact ⟨n, rfl, by omega⟩
    · obtain ⟨B2, ss, u3, u4, u5, u6, u7, u8, e2, s2, h2, hss, hl, rfl⟩ := q
      refine gq_asg (B := B2) (d := d) (eg_takeN (m := 8) (ev_var rfl) ev_c (by decide)) s2 fun v B3 H3 e3 s3 r => ?_
      obtain ⟨way, rfl, _⟩ := r
      have h3 := e3 _ _ h2
      have e3 := e2.trans e3
      have fin : ∀ (B4 H4 : Hp) (x : Str) (σ' : L2.St) (u5 u6 u7 u8 : Option V), Ex (hide H d) B4 → RowOk x → Sd (upd B4 p (.lst (ss.map V.str ++ [.str x]))) d H4 → σ' = [some (.ref d), some (.bl g), some (.ref p), some (.int (i : Int)), some (.int (way : Int)), u5, u6, u7, u8] →
          ∃ (B2 : Hp) (ss : List Str) (u3 u4 u5 u6 u7 u8 : Option V), Ex (hide H d) B2 ∧ Sd B2 d H4 ∧ B2 p = some (.lst (ss.map V.str)) ∧ (∀ x ∈ ss, RowOk x) ∧ ss.length ≤ 2 * (i + 1) ∧ σ' = [some (.ref d), some (.bl g), some (.ref p), u3, u4, u5, u6, u7, u8] := fun B4 H4 x σ' u5 u6 u7 u8 e hx s es =>
        ⟨_, ss ++ [x], _, _, u5, u6, u7, u8, e.mut nb, s, by rw [List.map_append]; exact upd_same, fun y hy => (List.mem_append.mp hy).elim (hss y) fun z => by rw [List.mem_singleton.mp z]; exact hx, by rw [List.length_append, List.length_singleton]; omega, es⟩
      have hz : (ss.map V.str).length < 100000 := by rw [List.length_map]; omega
      refine g_if (egt_lift (et_and (et_truL (ev_var rfl) (sq_of h3)) fun _ => et_test (ev_op (ev_var rfl) ev_c (rv_eq rfl)))) s3 (fun B4 H4 e4 s4 rt => ?_) (fun B4 H4 e4 s4 rt => ?_)
      · have h4 := e4 _ _ h3
        have hne : ss ≠ [] := fun z => by
          rw [z] at rt
          exact absurd rt.1 (by simp)
        have hpos : 0 < ss.length := List.length_pos_iff.mpr hne
        refine g_app h4 (fun _ => ev_var rfl) (eg_itemL (n := ((ss.map V.str).length : Int)) (ev_var rfl) (sq_of h4) (eg_takeN (ev_var rfl) (ev_len (ev_var rfl) (sq_of h4)) (by rw [List.length_map]; omega)) (Int.le_refl _)) hz s4 fun v B5 H5 e5 r s5 => ?_
        obtain ⟨x, hx, rfl⟩ := List.mem_map.mp r
        exact fin B5 H5 x _ _ _ _ _ ((e3.trans e4).trans e5) (hss x hx) s5 rfl
      have h4 := e4 _ _ h3
      have e4 := e3.trans e4
      refine g_if (egt_lift (et_and (et_truL (ev_var rfl) (sq_of h4)) fun _ => et_test (ev_op (ev_var rfl) ev_c (rv_eq rfl)))) s4 (fun B5 H5 e5 s5 rt => ?_) (fun B5 H5 e5 s5 rt => ?_)
      · have h5 := e5 _ _ h4
        have hne : ss ≠ [] := fun z => by
          rw [z] at rt
          exact absurd rt.1 (by simp)
        obtain ⟨init, y, ey⟩ : ∃ init y, ss = init ++ [y] := ⟨_, _, (List.dropLast_concat_getLast hne).symm⟩
        have hy := hss y (by rw [ey]; exact List.mem_append_right _ List.mem_cons_self)
        have hat : atI (ss.map V.str) (-1) = some (.str y) := by
          rw [ey, List.map_append]
          exact atI_last _ _
        have hyl := hy.1.pos
        refine g_app (R := fun v _ => ∃ x : Str, v = .str x ∧ RowOk x) h5 (fun _ => ev_var rfl) (eg_opV (Rb := fun v _ => ∃ x : Str, v = .str (cutS x (some 1) none) ∧ IsLet x ∧ x.length ≤ 4) (ev_op (ev_op (ev_var rfl) (ev_un ev_c ru_neg) (rv_ixL (sq_of h5) hat)) ev_c (rv_ixS (by omega) (c := capOf y) (by rw [show y.cps.toList = capOf y :: numL (numOf y) from hy.1.shape]; exact atI_nat (j := 0) rfl)))
          (eg_slS (eg_letter (n := 3) (ev_var rfl) (eg_opV (Rb := fun v _ => ∃ n : Nat, v = .int (n : Int) ∧ (n : Int) < 3) ev_c (eg_takeN (m := 3) (ev_var rfl) ev_c (by decide)) fun z B6 _ hz => ?_) (by decide)) (fun _ => eo_some ev_c) (fun _ => eo_none) fun v B6 r => ?_) fun z B6 _ r => ?_) hz s5 fun v B6 H6 e6 r s6 => ?_
        · obtain ⟨n, rfl, hn⟩ := hz
          exact ⟨_, rv_I0, n + 1, by congr 1; omega, by omega, by omega⟩
        · obtain ⟨x, rfl, hx, hl⟩ := r
          exact ⟨x, rfl, by omega, x, rfl, hx, hl⟩
        · obtain ⟨x, rfl, hx, hl⟩ := r
          have z := let_swap hy.1.cap.2 hx
          have hc := cutS_length x (some 1) none
          exact ⟨_, rv_addS (by rw [len_one]; omega), _, rfl, z.1, by have := z.2; omega⟩
        · obtain ⟨x, rfl, hx⟩ := r
          exact fin B6 H6 x _ _ _ _ _ ((e4.trans e5).trans e6) hx s6 rfl
      have h5 := e5 _ _ h4
      have e5 := e4.trans e5
      refine g_if (egt_lift (et_test (ev_op (ev_var rfl) ev_c (rv_eq rfl)))) s5 (fun B6 H6 e6 s6 rt => ?_) (fun B6 H6 e6 s6 rt => ?_)
      · have h6 := e6 _ _ h5
        have e6 := e5.trans e6
        refine gq_asg (R := fun v _ => ∃ n : Nat, v = .int (n : Int) ∧ 1 ≤ n ∧ n ≤ 3) (eg_opV (Rb := fun v _ => ∃ n : Nat, v = .int (n : Int) ∧ (n : Int) < 3) ev_c (eg_takeN (m := 3) (ev_var rfl) ev_c (by decide)) fun z B7 _ hz => ?_) s6 fun v B7 H7 e7 s7 r => ?_
        · obtain ⟨n, rfl, hn⟩ := hz
          exact ⟨_, rv_I0, n + 1, by congr 1; omega, by omega, by omega⟩
        obtain ⟨m, rfl, hm1, hm2⟩ := r
        have h7 := e7 _ _ h6
        have e7 := e6.trans e7
        have hlen1 : ("9" : Str).length = 1 := rfl
        have hlen0 : ("0" : Str).length = 1 := rfl
        have hlr : (repS "0" m).length ≤ 3 := by
          rw [len_tl, show ("0" : Str) = ⟨#[48]⟩ from rfl, rep_tl, List.length_replicate]
          exact hm2
        have hlr9 : (repS "9" m).length ≤ 3 := by
          rw [len_tl, show ("9" : Str) = ⟨#[57]⟩ from rfl, rep_tl, List.length_replicate]
          exact hm2
        have hl1 : ("1" : Str).length = 1 := rfl
        refine gq_asg (eg_liftL (xs := [.str (repS "9" m), .str (("1" : Str) ++ repS "0" m)]) (el_lst (ea_cons (ev_op ev_c (ev_var rfl) (rv_repS hm1 (by omega) (by omega))) (ea_cons (ev_op ev_c (ev_op ev_c (ev_var rfl) (rv_repS hm1 (by omega) (by omega))) (rv_addS (by omega))) ea_nil)) (show 2 ≤ 100000 by decide))) s7 fun v B8 H8 e8 s8 r => ?_
        obtain ⟨q, rfl, hq, hqd, rfl⟩ := r
        have h8 := e8 _ _ h7
        have e8' := e7.trans e8
        refine gq_asg (R := fun v _ => ∃ c, v = .str ⟨#[c]⟩ ∧ c ∈ tl capitals) (eg_opW (eg_letter (n := 1) (ev_var rfl) (EvG.sd (eg_ev ev_c) fun v _ r => ⟨1, r, by omega, by omega⟩) (by decide)) (fun _ _ _ _ => ev_c) fun v B9 _ r => ?_) s8 fun v B9 H9 e9 s9 r => ?_
        · obtain ⟨x, rfl, hx, hl⟩ := r
          exact ⟨_, rv_ixS (by omega) (c := capOf x) (by rw [show x.cps.toList = capOf x :: numL (numOf x) from hx.shape]; exact atI_nat (j := 0) rfl), _, rfl, hx.cap.2⟩
        obtain ⟨c, rfl, hc⟩ := r
        have h9 := e9 _ _ h8
        have q9 := e9 _ _ (show (upd B7 q (.lst [.str (repS "9" m), .str (("1" : Str) ++ repS "0" m)])) q = some _ from upd_same)
        have e9' := e8'.trans e9
        refine gq_asg (eg_takeN (m := 2) (ev_var rfl) ev_c (by decide)) s9 fun v B10 H10 e10 s10 r => ?_
        obtain ⟨a, rfl, ha⟩ := r
        have h10 := e10 _ _ h9
        have q10 := e10 _ _ q9
        have e10' := e9'.trans e10
        have hqp : q ≠ p := fun z => by
          rw [z] at hq
          rw [h7] at hq
          cases hq
        have key : ∀ (j : Nat) (B : Hp) (ti : TE) (σ : L2.St), j < 2 → σ[7]? = some (some (.str ⟨#[c]⟩)) → σ[6]? = some (some (.ref q)) → B q = some (.lst [.str (repS "9" m), .str (("1" : Str) ++ repS "0" m)]) → Ev ti σ B (.int (j : Int)) → ∃ x : Str, RowOk x ∧ Ev (tOp rAddS (tVar 7) (tOp (rIxL K) (tVar 6) ti)) σ B (.str x) := fun j B ti σ hj h7 h6 hq hti => by
          rcases (show j = 0 ∨ j = 1 by omega) with rfl | rfl
          · exact ⟨_, let_nines hc hm1 (by omega), ev_op (ev_var h7) (ev_op (ev_var h6) hti (rv_ixL (sq_of hq) (atI_nat (j := 0) rfl))) (rv_addS (by rw [len_one]; omega))⟩
          · exact ⟨_, let_ten hc (by omega), ev_op (ev_var h7) (ev_op (ev_var h6) hti (rv_ixL (sq_of hq) (atI_nat (j := 1) rfl))) (rv_addS (by rw [len_one, len_app]; omega))⟩
        obtain ⟨x1, hx1, hev1⟩ := key a B10 (tVar 8) [some (.ref d), some (.bl g), some (.ref p), some (.int (i : Int)), some (.int (way : Int)), some (.int (m : Int)), some (.ref q), some (.str ⟨#[c]⟩), some (.int (a : Int))] (by omega) rfl rfl q10 (ev_var rfl)
        refine gq_app h10 (fun _ => ev_var rfl) (eg_ev hev1) hz s10 fun v B11 H11 e11 r s11 => ?_
        rw [r] at s11
        have h11 : (upd B11 p (.lst (ss.map V.str ++ [.str x1]))) p = some (.lst ((ss ++ [x1]).map V.str)) := by
          rw [List.map_append]
          exact upd_same
        have q11 : (upd B11 p (.lst (ss.map V.str ++ [.str x1]))) q = some (.lst [.str (repS "9" m), .str (("1" : Str) ++ repS "0" m)]) := by
          rw [upd_ne hqp]
          exact e11 _ _ q10
        obtain ⟨x2, hx2, hev2⟩ := key (1 - a) _ (tOp (rI0 fun i j => .int (i - j)) (tC (.int 1)) (tVar 8)) [some (.ref d), some (.bl g), some (.ref p), some (.int (i : Int)), some (.int (way : Int)), some (.int (m : Int)), some (.ref q), some (.str ⟨#[c]⟩), some (.int (a : Int))] (by omega) rfl rfl q11 (ev_is (ev_op ev_c (ev_var rfl) rv_I0) (by congr 1; omega))
        refine g_app h11 (fun _ => ev_var rfl) (eg_ev hev2) (by rw [List.length_map, List.length_append, List.length_singleton]; omega) s11 fun v B12 H12 e12 r s12 => ?_
        rw [r] at s12
        refine ⟨_, (ss ++ [x1]) ++ [x2], _, _, _, _, _, _, (((e10'.trans e11).mut nb).trans e12).mut nb, s12, by rw [List.map_append (l₁ := ss ++ [x1])]; exact upd_same, fun y hy => ?_, by rw [List.length_append, List.length_append, List.length_singleton, List.length_singleton]; omega, rfl⟩
        rcases List.mem_append.mp hy with z | z
        · rcases List.mem_append.mp z with z | z
          · exact hss y z
          · rw [List.mem_singleton.mp z]
            exact hx1
        · rw [List.mem_singleton.mp z]
          exact hx2
      have h6 := e6 _ _ h5
      have e6 := e5.trans e6
      refine g_if (egt_lift (et_and (et_test (ev_op (ev_var rfl) ev_c (rv_eq rfl))) fun _ => et_B (ev_var rfl))) s6 (fun B7 H7 e7 s7 rt => ?_) (fun B7 H7 e7 s7 rt => ?_)
      · refine g_app (e7 _ _ h6) (fun _ => ev_var rfl) (eg_letter (n := 300) (ev_var rfl) (eg_opV (Rb := fun v _ => ∃ n : Nat, v = .int (n : Int) ∧ (n : Int) < 291) ev_c (eg_takeN (m := 291) (ev_var rfl) ev_c (by decide)) fun z B6 _ hz => ?_) (by decide)) hz s7 fun v B8 H8 e8 r s8 => ?_
        · obtain ⟨n, rfl, hn⟩ := hz
          exact ⟨_, rv_I0, n + 10, by congr 1; omega, by omega, by omega⟩
        · obtain ⟨x, rfl, hx, hl⟩ := r
          exact fin B8 H8 x _ _ _ _ _ ((e6.trans e7).trans e8) ⟨hx, by omega⟩ s8 rfl
      · refine g_app (e7 _ _ h6) (fun _ => ev_var rfl) (eg_letter (n := 9) (ev_var rfl) (eg_itemN (n := 6) (Pv := fun v => ∃ k : Nat, v = .int (k : Int) ∧ 1 ≤ k ∧ k ≤ 9) (EvG.sd (eg_lst (Rs := fun us _ => Nats 6 1 9 us) (ega_natV 1 ev_c (by omega) (ega_natV 1 ev_c (by omega) (ega_natV 1 ev_c (by omega) (ega_natV 2 ev_c (by omega) (ega_natV 3 ev_c (by omega) (ega_natV 9 ev_c (by omega) ega_nat0)))))) fun us _ z => by rw [z.1]; decide) fun v B8 r => ?_) (fun B8 => eg_takeN (m := 6) (ev_var rfl) ev_c (by decide))) (by decide)) hz s7 fun v B8 H8 e8 r s8 => ?_
        · obtain ⟨q, us, B9, rfl, _, _, _, rfl, hu⟩ := r
          exact ⟨q, us, rfl, upd_same, by rw [hu.1]; decide, hu.2⟩
        · obtain ⟨x, rfl, hx, hl⟩ := r
          exact fin B8 H8 x _ _ _ _ _ ((e6.trans e7).trans e8) ⟨hx, by omega⟩ s8 rfl
    · obtain ⟨B2, ss, u3, u4, u5, u6, u7, u8, e2, s2, h2, hss, hl, rfl⟩ := q
      exact s_ret (ev_var rfl) fun H3 e3 => k _ B2 H3 e2 (s2.mono e3) ⟨p, ss, rfl, h2, hss, by omega⟩

end
end K00
-- D17
namespace K00
open PySem PySem.Spec PyProof.Rows L2 Evl KEv TL KDd KSq KDc KKey KLamS KSame KTxt KMaxD LamX
/-! _law_row_told -/
/-- the rule for a def whose code object is known -/
theorem okC {P : Program} {w : World} {K : PySem.W.Frag} {mg : Str → Option Value} {base : Heap} {x qual : Str} {st : Stmt} {f c : Addr} {fd : FuncData} {N ps : List Str} {k : Nat} {sp : Sp} (F : Fun K x qual st f fd) (hc : fd.code = .ref c) (S : FnScope N ps (defScope st)) (len : ∀ vs H Q E, sp vs H Q E → vs.length = ps.length)
    (hbody : ∀ (A : Around) (outer : List Env) (s : Shared) (H : Hp) (vs : List V) (Q : VK) (E : XK), Room k (A.deeper (envOfC qual (defScope st) s.heap.objs.size f (.ref c))) → sp vs H Q E →
      ∃ t, PSs (cxOf CX0 P w K mg base N qual (defScope st) f (.ref c) A outer s H E).nox (defBody st) t ∧ t { nx := fun _ H' => Q .non H', rt := Q } (start N vs) H) : FnOk P w K mg base CX0 (k + 1) f fd ps sp := by
  obtain ⟨oc, od, kV, doc, pm, an, cdv, ct, osl, rfl, lk, hcd⟩ := F.ex
  obtain rfl : cdv = .ref c := hc
  refine fn_of lk hcd S len fun A outer s H vs Q E hr hsp => ?_
  obtain ⟨t, h, q⟩ := hbody A outer s H vs Q E hr hsp
  exact ⟨t, h.nox, q⟩
def rTupSq (K : PySem.W.Frag) : List V → Hp → VK → Prop := fun xs H Q => ∃ p ys, xs = [.ref p] ∧ ((SqL K H p ys ∧ ∀ l, H l = none → Q (.ref l) (upd H l (.tup ys))) ∨ (SqT K H p ys ∧ Q (.ref p) H))
theorem call_tuple_sq {X : Cx} : CallR X (.type "tuple") (rTupSq X.K) := call_tuple_of
theorem call_list_sq {X : Cx} : CallR X (.type "list") (rListS X.K) := call_list_of
theorem eu_tupL {K : PySem.W.Frag} {σ : L2.St} {H : Hp} {te : TE} {a : Addr} {xs : List V} (h : Ev te σ H (.ref a)) (hx : SqL K H a xs) : EvU (tCB (rTupSq K) (tCons te tNil)) σ H xs := fun H1 e Q q =>
  h H1 e _ fun H2 e2 => ⟨a, xs, rfl, .inl ⟨ex_l (e.trans e2) hx, fun l hl => q l _ (fresh_back e2 hl) (e2.trans (Ex.new hl)) upd_same⟩⟩
/-- a call of a def that promises a new list, one argument; the argument new or not -/
theorem el_call1 {sp : Sp} {E : XK} {σ : L2.St} {H : Hp} {te : TE} {v : V} {xs : List V} (h : Ev te σ H v) (hs : ∀ H1, Ex H H1 → ∀ Q : VK, RetL xs H1 Q → ∀ E, sp [v] H1 Q E) : EvL (tCall sp [] E (tCons te tNil)) σ H xs := el_call (ea_cons h ea_nil) fun H1 e Q q E => hs H1 e Q (fun p H2 hp e2 h2 => q p H2 hp e2 h2) E
theorem el_callU {sp : Sp} {E : XK} {σ : L2.St} {H : Hp} {te : TE} {us xs : List V} (h : EvU te σ H us) (hs : ∀ p H1, Ex H H1 → H1 p = some (.tup us) → ∀ Q : VK, RetL xs H1 Q → ∀ E, sp [.ref p] H1 Q E) : EvL (tCall sp [] E (tCons te tNil)) σ H xs := fun H1 e Q q =>
  h H1 e _ fun p H2 hp e2 h2 => hs p H2 (e.trans e2) h2 Q (fun r H3 hr e3 h3 => q r H3 (fresh_back e2 hr) (e2.trans e3) h3) E
theorem el_callL {sp : Sp} {E : XK} {σ : L2.St} {H : Hp} {te : TE} {us xs : List V} (h : EvL te σ H us) (hs : ∀ p H1, Ex H H1 → H1 p = some (.lst us) → ∀ Q : VK, RetL xs H1 Q → ∀ E, sp [.ref p] H1 Q E) : EvL (tCall sp [] E (tCons te tNil)) σ H xs := fun H1 e Q q =>
  h H1 e _ fun p H2 hp e2 h2 => hs p H2 (e.trans e2) h2 Q (fun r H3 hr e3 h3 => q r H3 (fresh_back e2 hr) (e2.trans e3) h3) E
theorem ev_callU {sp : Sp} {E : XK} {σ : L2.St} {H : Hp} {te : TE} {us : List V} {z : V} (h : EvU te σ H us) (hs : ∀ p H1, Ex H H1 → H1 p = some (.tup us) → ∀ Q : VK, RetV z H1 Q → ∀ E, sp [.ref p] H1 Q E) : Ev (tCall sp [] E (tCons te tNil)) σ H z := fun H1 e Q q =>
  h H1 e _ fun p H2 hp e2 h2 => hs p H2 (e.trans e2) h2 Q (fun H3 e3 => q H3 (e2.trans e3)) E
theorem ed_call1 {sp : Sp} {E : XK} {σ : L2.St} {H : Hp} {te : TE} {v : V} {kvs : List (Key × V)} (h : Ev te σ H v) (hs : ∀ H1, Ex H H1 → ∀ Q : VK, RetD kvs H1 Q → ∀ E, sp [v] H1 Q E) : EvD (tCall sp [] E (tCons te tNil)) σ H kvs := fun H1 e Q q =>
  h H1 e _ fun H2 e2 => hs H2 (e.trans e2) Q (fun r H3 hr e3 h3 => q r H3 (fresh_back e2 hr) (e2.trans e3) h3) E
theorem ed_callU {sp : Sp} {E : XK} {σ : L2.St} {H : Hp} {te : TE} {us : List V} {kvs : List (Key × V)} (h : EvU te σ H us) (hs : ∀ p H1, Ex H H1 → H1 p = some (.tup us) → ∀ Q : VK, RetD kvs H1 Q → ∀ E, sp [.ref p] H1 Q E) : EvD (tCall sp [] E (tCons te tNil)) σ H kvs := fun H1 e Q q =>
  h H1 e _ fun p H2 hp e2 h2 => hs p H2 (e.trans e2) h2 Q (fun r H3 hr e3 h3 => q r H3 (fresh_back e2 hr) (e2.trans e3) h3) E
/-- two lists, two dicts that hold the same -/
theorem ev_sameL {E : XK} {σ : L2.St} {H : Hp} {ta tb : TE} {b : Addr} {xs : List V} (ha : EvL ta σ H xs) (hb : Ev tb σ H (.ref b)) (h : H b = some (.lst xs)) (hf : ∀ x ∈ xs, flatS x = true) (hz : xs.length ≤ 10000) : Ev (tCall spSame [] E (tCons ta (tCons tb tNil))) σ H (.bl true) := fun H1 e Q q =>
  ha H1 e _ fun p H2 hp e2 h2 => hb H2 (e.trans e2) _ fun H3 e3 => ⟨.ref p, .ref b, rfl, .lst p b xs hf hz (e3 _ _ h2) (e3 _ _ (e2 _ _ (e _ _ h))), fun H4 e4 => q H4 ((e2.trans e3).trans e4)⟩
theorem ev_sameLL {E : XK} {σ : L2.St} {H : Hp} {ta tb : TE} {a b : Addr} {xs : List V} (ha : Ev ta σ H (.ref a)) (hb : Ev tb σ H (.ref b)) (h1 : H a = some (.lst xs)) (h : H b = some (.lst xs)) (hf : ∀ x ∈ xs, flatS x = true) (hz : xs.length ≤ 10000) : Ev (tCall spSame [] E (tCons ta (tCons tb tNil))) σ H (.bl true) := fun H1 e Q q =>
  ha H1 e _ fun H2 e2 => hb H2 (e.trans e2) _ fun H3 e3 => ⟨.ref a, .ref b, rfl, .lst a b xs hf hz (e3 _ _ (e2 _ _ (e _ _ h1))) (e3 _ _ (e2 _ _ (e _ _ h))), fun H4 e4 => q H4 ((e2.trans e3).trans e4)⟩
theorem ev_sameD {E : XK} {σ : L2.St} {H : Hp} {ta tb : TE} {b : Addr} {kvs : List (Key × V)} (ha : EvD ta σ H kvs) (hb : Ev tb σ H (.ref b)) (h : H b = some (.dK kvs)) (hf : ∀ p ∈ kvs, flatS p.2 = true) (hz : kvs.length ≤ 10000) : Ev (tCall spSame [] E (tCons ta (tCons tb tNil))) σ H (.bl true) := fun H1 e Q q =>
  ha H1 e _ fun p H2 hp e2 h2 => hb H2 (e.trans e2) _ fun H3 e3 => ⟨.ref p, .ref b, rfl, .dic p b kvs hf hz (e3 _ _ h2) (e3 _ _ (e2 _ _ (e _ _ h))), fun H4 e4 => q H4 ((e2.trans e3).trans e4)⟩
theorem el_cat {σ : L2.St} {H : Hp} {ta tb : TE} {a b : Addr} {xs ys : List V} (ha : Ev ta σ H (.ref a)) (hb : Ev tb σ H (.ref b)) (h1 : H a = some (.lst xs)) (h2 : H b = some (.lst ys)) (hl : xs.length + ys.length ≤ 100000) : EvL (tOp rCat ta tb) σ H (xs ++ ys) := fun H1 e Q q =>
  ha H1 e _ fun H2 e2 => hb H2 (e.trans e2) _ fun H3 e3 => ⟨a, b, xs, ys, rfl, rfl, e3 _ _ (e2 _ _ (e _ _ h1)), e3 _ _ (e2 _ _ (e _ _ h2)), sz_of hl, fun p hp => q p _ (fresh_back (e2.trans e3) hp) ((e2.trans e3).trans (Ex.new hp)) upd_same⟩
theorem el_catLL {σ : L2.St} {H : Hp} {ta tb : TE} {xs ys : List V} (ha : EvL ta σ H xs) (hb : EvL tb σ H ys) (hl : xs.length + ys.length ≤ 100000) : EvL (tOp rCat ta tb) σ H (xs ++ ys) := fun H1 e Q q =>
  ha H1 e _ fun a H2 h1 e2 ha => hb H2 (e.trans e2) _ fun b H3 h2 e3 hb => ⟨a, b, xs, ys, rfl, rfl, e3 _ _ ha, hb, sz_of hl, fun p hp => q p _ (fresh_back (e2.trans e3) hp) ((e2.trans e3).trans (Ex.new hp)) upd_same⟩
theorem ev_maxL {K : PySem.W.Frag} {σ : L2.St} {H : Hp} {ta : TE} {ns : List Int} {m : Int} (ha : EvL ta σ H (ns.map V.int)) (h0 : 0 < ns.length) (hm : ∀ y, y ∈ ns → (∀ z ∈ ns, z ≤ y) → y = m) : Ev (tCB (rMax K) (tCons ta tNil)) σ H (.int m) := fun H1 e Q q =>
  ha H1 e _ fun a H2 _ e2 ha => ⟨a, ns, rfl, sq_of ha, h0, fun y hy hz => by rw [hm y hy hz]; exact q H2 e2⟩
theorem made_all {k : Nat → Key} {v : Nat → V} {p : Key × V → Prop} (hv : ∀ i a, p (a, v i)) (n : Nat) : ∀ q ∈ madeK n k v, p q := by
  induction n with
  | zero => exact fun q hq => absurd hq (by unfold madeK; simp)
  | succ n ih =>
    rw [madeK_succ]
    intro q hq
    unfold putK at hq
    split at hq
    · obtain ⟨r, hr, rfl⟩ := List.mem_map.mp hq
      split
      · exact hv n _
      · exact ih r hr
    · rcases List.mem_append.mp hq with z | z
      · exact ih q z
      · rw [List.mem_singleton.mp z]
        exact hv n _
def lamQ : Str := Str.ofString "_law_row_told" ++ ".<locals>." ++ "<lambda>"
def spRT (tb : Addr) : Sp := fun vs H Q _ => ∃ (p : Addr) (ss : List Str), vs = [.ref p] ∧ H p = some (.lst (ss.map V.str)) ∧ (∀ x ∈ ss, RowOk x) ∧ ss.length ≤ 50 ∧ Tabs [(tb, lamQ)] H ∧ ∀ H2, ExtN H H2 → Tabs [(tb, lamQ)] H2 → Q (.bl true) H2
theorem scRT : FnScope ["row", "unlike", "letter", "due", "free", "names", "k", "given"] ["row"] (defScope (topS 24)) := ⟨rfl, rfl, rfl, by decide +kernel, rfl, by decide +kernel, by decide +kernel⟩
section
variable {P : Program} {w : World} {K : PySem.W.Frag} {mg : Str → Option Value} {base : Heap}
theorem ok_row_told {f fs fi ff fc cd tb : Addr} {fd fds fdi fdf fdc : FuncData} (D : DefAt K mg 24 "_law_row_told" ["row"] f fd) (hcd : fd.code = .ref cd) (TB : TabB base mg cd tb) (S : GenAt P w K mg base 2 "_law_same" ["told", "due"] spSame fs fds) (IO : GenAt P w K mg base 4 "in_order" ["letters"] (spInOrder K) fi fdi) (FN : GenAt P w K mg base 1 "free_number" ["letters"] (spFree K) ff fdf) (CN : GenAt P w K mg base 1 "canonical_names" ["letters"] (spCanon K) fc fdc)
    (N : Nm mg) (M : NmS mg) (ms : mg "sorted" = none) (mm : mg "max" = none) : FnOk P w K mg base CX0 5 f fd ["row"] (spRT tb) := by
  refine okC D.F hcd scRT (fun vs H Q E h => ?_) (fun A outer s H vs Q E hr h => ?_)
  · obtain ⟨p, ss, rfl, _⟩ := h
    rfl
  · obtain ⟨p, ss, rfl, hp, hss, hz, hT, k⟩ := h
    have hu := hu_of hr
    refine ⟨_, (pss_cons (ps_asg (pe_lst pa_nil) (pg_name (i := 1) scRT.nd rfl (.inl rfl))) (pss_cons (ps_for PassesOwn.never rfl (pi_list (pv 0)) (pg_name (i := 2) scRT.nd rfl (.inl rfl)) (pss_one (ps_if (pt_cmpR op_notIn_seq (pv 2) (pv 1) rfl) (pss_one (ps_expr (pe_bm PySem.F.plainAttrs_list PySem.F.slot_list_append PySem.F.type_list_append mt_append (pv 1) (pa_cons (pv 2) pa_nil)))) pss_nil))) (pss_cons (ps_asg (pe_sortLam (T := [(tb, Str.ofString "_law_row_told" ++ ".<locals>." ++ "<lambda>")]) (c := cd) (P := tb) (cp := capOf) (by rfl) ms (pv 1) TB rfl List.mem_cons_self (fun q hq _ => by rw [List.mem_singleton.mp hq]; rfl) rfl rfl rfl rfl rfl rfl (by decide +kernel) (by decide +kernel) (fun _ _ _ _ _ => rfl) rfl N.len (hr.mono (by decide))) (pg_name (i := 3) scRT.nd rfl (.inl rfl))) (pss_cons (ps_asg (pe_callB (cr_max (by rfl)) (by rfl) mm (by decide +kernel) (pa_cons (pe_op op_cat (pe_lst (pa_cons pe_int pa_nil)) (pe_lc (own := [("letter", 2)]) (g := gName 2) (tt := tYes) rfl scRT.nd (pi_list (pv 0)) (blkOk_by (own := [("letter", 2)]) (N := ["row", "unlike", "letter", "due", "free", "names", "k", "given"]) (sc := defScope (topS 24)) (by decide +kernel)) (fun _ _ _ _ _ => pg_name (i := 2) scRT.nd rfl (.inl rfl)) (fun _ _ _ _ _ => pts_nil) (fun _ _ _ _ _ => pe_op op_add (pe_callTy call_intT (by rfl) M.int (by decide +kernel) (pa_cons (pe_slice sl_str (pv 2) (po_some pe_int) po_none) pa_nil)) pe_int))) pa_nil)) (pg_name (i := 4) scRT.nd rfl (.inl rfl))) (pss_cons (ps_asg pe_dnewK (pg_name (i := 5) scRT.nd rfl (.inl rfl))) (pss_cons (ps_for PassesOwn.never rfl (pi_range1 (by rfl) M.range (pa_cons (pe_callB call_len_seq (by rfl) N.len PySem.boot_len (pa_cons (pv 1) pa_nil)) pa_nil)) (pg_name (i := 6) scRT.nd rfl (.inl rfl)) (pss_one (ps_dput hu (pv 5) (pe_ix ix_list (pv 1) (pv 6) (fun _ _ => rfl)) (pe_op op_addS (pe_ix ix_str (pe_ix ix_list (pv 1) (pv 6) (fun _ _ => rfl)) pe_int (fun _ _ => rfl)) (pe_callTy call_strI (by rfl) M.str (by decide +kernel) (pa_cons (pv 6) pa_nil))) rfl))) (pss_cons (ps_asg (pe_callTy call_list_sq (by rfl) M.list (by decide +kernel) (pa_cons (pv 0) pa_nil)) (pg_name (i := 7) scRT.nd rfl (.inl rfl))) (pss_cons (ps_if (PW.pt (pw_or (pt_not (pt_val (pe_call S.F (hr.mono (by decide)) (by rfl) S.g S.kp S.b .nil pass0 (pa_cons (pe_call IO.F (hr.mono (by decide)) (by rfl) IO.g IO.kp IO.b .nil pass0 (pa_cons (pv 7) pa_nil)) (pa_cons (pv 3) pa_nil))))) (pw_or1 (pt_not (pt_val (pe_call S.F (hr.mono (by decide)) (by rfl) S.g S.kp S.b .nil pass0 (pa_cons (pe_call IO.F (hr.mono (by decide)) (by rfl) IO.g IO.kp IO.b .nil pass0 (pa_cons (pe_callTy call_tuple_sq (by rfl) M.tuple (by decide +kernel) (pa_cons (pv 0) pa_nil)) pa_nil)) (pa_cons (pv 3) pa_nil)))))))) pss_never pss_nil) (pss_cons (ps_if (PW.pt (pw_or (pt_not (pt_val (pe_call S.F (hr.mono (by decide)) (by rfl) S.g S.kp S.b .nil pass0 (pa_cons (pe_call FN.F (hr.mono (by decide)) (by rfl) FN.g FN.kp FN.b .nil pass0 (pa_cons (pv 7) pa_nil)) (pa_cons (pv 4) pa_nil))))) (pw_or1 (pt_not (pt_val (pe_call S.F (hr.mono (by decide)) (by rfl) S.g S.kp S.b .nil pass0 (pa_cons (pe_call FN.F (hr.mono (by decide)) (by rfl) FN.g FN.kp FN.b .nil pass0 (pa_cons (pe_callTy call_tuple_sq (by rfl) M.tuple (by decide +kernel) (pa_cons (pv 0) pa_nil)) pa_nil)) (pa_cons (pv 4) pa_nil)))))))) pss_never pss_nil) (pss_cons (ps_if (PW.pt (pw_or (pt_not (pt_val (pe_call S.F (hr.mono (by decide)) (by rfl) S.g S.kp S.b .nil pass0 (pa_cons (pe_call CN.F (hr.mono (by decide)) (by rfl) CN.g CN.kp CN.b .nil pass0 (pa_cons (pv 1) pa_nil)) (pa_cons (pv 5) pa_nil))))) (pw_or1 (pt_not (pt_val (pe_call S.F (hr.mono (by decide)) (by rfl) S.g S.kp S.b .nil pass0 (pa_cons (pe_call CN.F (hr.mono (by decide)) (by rfl) CN.g CN.kp CN.b .nil pass0 (pa_cons (pe_callTy call_tuple_sq (by rfl) M.tuple (by decide +kernel) (pa_cons (pv 1) pa_nil)) pa_nil)) (pa_cons (pv 5) pa_nil)))))))) pss_never pss_nil) (pss_one (ps_ret (pe_and (pe_call S.F (hr.mono (by decide)) (by rfl) S.g S.kp S.b .nil pass0 (pa_cons (pv 7) (pa_cons (pv 0) pa_nil))) (pe_one (pe_call S.F (hr.mono (by decide)) (by rfl) S.g S.kp S.b .nil pass0 (pa_cons (pe_call IO.F (hr.mono (by decide)) (by rfl) IO.g IO.kp IO.b .nil pass0 (pa_cons (pe_op op_cat (pv 1) (pv 0)) pa_nil)) (pa_cons (pv 3) pa_nil))))))))))))))))), ?_⟩
    have hlet : ∀ x ∈ ss, IsLet x := fun x hx => (hss x hx).1
    have hlu : ∀ x ∈ dd ss, IsLet x := fun x hx => hlet x (dd_mem.mp hx)
    have hdl : ∀ n, (dd (ss.take n)).length ≤ 50 := fun n => Nat.le_trans dd_len (by rw [List.length_take]; omega)
    have hdl0 : (dd ss).length ≤ 50 := Nat.le_trans dd_len hz
    refine q_asgL (el_lst ea_nil (by decide)) fun u H1 hu0 e1 h1 => ?_
    refine q_forLB (B := H) e1 (ev_var rfl) (sq_of hp) (fun i σ H2 => (∃ y, σ = [some (.ref p), some (.ref u), y, none, none, none, none, none]) ∧ Ex H H2 ∧ H2 u = some (.lst ((dd (ss.take i)).map V.str))) (fun H2 e2 => ⟨⟨_, rfl⟩, e1.trans e2, e2 _ _ h1⟩) (fun i σ H2 q => q.2.1) (fun i x σ H2 hx q => ?_) (fun σ H2 q => ?_)
    · obtain ⟨⟨y0, rfl⟩, e2, h2⟩ := q
      obtain ⟨hi, ex, hx2⟩ := at_str hx
      subst ex
      generalize ss.getD i Str.empty = y at hx2
      have hd := dd_take hx2
      refine s_when (b := !decide (y ∈ dd (ss.take i))) (et_is (et_test (ev_op (ev_var rfl) (ev_var rfl) (rv_niL (sq_of h2) rfl (flat_txt _)))) (by rw [inV_txt])) (fun hb H3 e3 => ?_) (fun hb H3 e3 => ?_)
      · have hy : y ∉ dd (ss.take i) := by simpa using hb
        refine s_app (e3 _ _ h2) (ev_var rfl) (ev_var rfl) (by rw [List.length_map]; have := hdl i; omega) fun H4 e4 => ⟨⟨_, rfl⟩, ((e2.trans e3).trans e4).mut hu0, ?_⟩
        rw [hd]
        unfold addS
        rw [if_neg hy, List.map_append]
        exact upd_same
      · have hy : y ∈ dd (ss.take i) := by simpa using hb
        refine ⟨⟨_, rfl⟩, e2.trans e3, ?_⟩
        rw [hd]
        unfold addS
        rw [if_pos hy]
        exact e3 _ _ h2
    obtain ⟨⟨y0, rfl⟩, e2, h2⟩ := q
    rw [List.length_map, List.take_length] at h2
    refine ⟨.ref u, rfl, u, dd ss, rfl, sq_of h2, fun x hx => ?_, hT.ext e2, fun H3 eN T3 q hq => ?_⟩
    · have z := hlu x hx
      exact ⟨z.cap.1, by have := z.pos; omega, by have := z.pos; omega⟩
    rw [sort_agree hlu]
    have hp3 := eN p _ (e2 _ _ hp) (fun ps z => by cases z)
    have hu3 := eN u _ h2 (fun ps z => by cases z)
    have eq3 : Ex H3 (upd H3 q (.lst (((dd ss).mergeSort (PySem.W.dataLe false keyN)).map V.str))) := Ex.new hq
    generalize hHH : upd H3 q (.lst (((dd ss).mergeSort (PySem.W.dataLe false keyN)).map V.str)) = HH at eq3
    have hq4 : HH q = some (.lst (((dd ss).mergeSort (PySem.W.dataLe false keyN)).map V.str)) := by
      rw [← hHH]
      exact upd_same
    have hp4 := eq3 _ _ hp3
    have hu4 := eq3 _ _ hu3
    have kk : ∀ H5, Ex HH H5 → Q (.bl true) H5 := fun H5 e5 => k H5 (((ExtN.of e2).trans eN).trans (ExtN.of (eq3.trans e5))) (T3.ext (eq3.trans e5))
    clear eN T3 hT k
    show tSeq _ _ _ _ HH
    refine q_asg (v := .int (freeOf ss)) (ev_maxL (ns := 0 :: ss.map fun x => (numOf x : Int) + 1) (el_is (el_catLL (xs := [.int 0]) (ys := (ss.map fun x => (numOf x : Int) + 1).map V.int) (el_lst (ea_cons ev_c ea_nil) (show 1 ≤ 100000 by decide)) (el_is (el_lcL (K := K) (xs := ss.map V.str) (fun _ => true) (fun i => .int ((numOf (ss.getD i Str.empty) : Int) + 1)) (ev_var rfl) (sq_of hp4) (by rw [List.length_map]; omega) (fun x => rfl) (fun _ _ _ _ _ => yes_T) (fun i x H1 _ hx _ => ?_)) ?_) ?_) rfl) (by simp) fun y hy hz2 => ?_) fun H5 e5 => ?_
    · obtain ⟨hi, ex, hx2⟩ := at_str hx
      subst ex
      have hl := hlet _ (List.mem_of_getElem? hx2)
      generalize ss.getD i Str.empty = y at hl
      have := hl.pos
      have z := hl.num
      exact ev_op (ev_cb (ea_cons (ev_slS (ev_var rfl) (eo_some ev_c) eo_none (by omega)) ea_nil) (rc_intT z.1 (by omega))) ev_c rv_I0
    · rw [given_all fun _ _ => rfl, List.length_map, range_map (g := fun x : Str => V.int ((numOf x : Int) + 1)), List.map_map]
      rfl
    · rw [List.length_map, List.length_map]
      show 1 + ss.length ≤ 100000
      omega
    · unfold freeOf
      rcases List.mem_cons.mp hy with rfl | hy
      · cases hs : ss with
        | nil => rfl
        | cons x r =>
          have := hz2 ((numOf x : Int) + 1) (List.mem_cons_of_mem _ (List.mem_map.mpr ⟨x, by rw [hs]; exact List.mem_cons_self, rfl⟩))
          omega
      · exact (maxD_eq (fun z => by rw [z] at hy; simp at hy) hy fun z hz => hz2 z (List.mem_cons_of_mem _ hz)).symm
    refine q_asgD ed_new fun n H6 hn e6 h6 => ?_
    have hn0 : H5 n = none := hn
    have hnH : HH n = none := fresh_back e5 hn
    refine q_forR1 (n := ((dd ss).length : Int)) (ea_cons (ev_is (ev_len (ev_var rfl) (sq_of (e6 _ _ (e5 _ _ hu4)))) (by rw [List.length_map])) ea_nil) (by omega) (fun i σ H7 => (∃ y, σ = [some (.ref p), some (.ref u), y0, some (.ref q), some (.int (freeOf ss)), some (.ref n), y, none]) ∧ Ex HH H7 ∧ H7 n = some (.dK (madeK i (fun i => Sum.inr ((dd ss).getD i Str.empty)) (canonV (dd ss))))) (fun H7 e7 => ⟨⟨_, rfl⟩, (e5.trans e6).trans e7, e7 _ _ h6⟩) (fun i σ H7 hi z => ?_) (fun σ H7 z => ?_)
    · obtain ⟨⟨y, rfl⟩, e7, h7⟩ := z
      have hi2 : i < (dd ss).length := by omega
      have hx : (dd ss)[i]? = some ((dd ss).getD i Str.empty) := by
        rw [List.getD_eq_getElem?_getD, List.getElem?_eq_getElem hi2]
        rfl
      have hl := hlu _ (List.mem_of_getElem? hx)
      have hxv : ((dd ss).map V.str)[i]? = some (.str ((dd ss).getD i Str.empty)) := by rw [List.getElem?_map, hx]; rfl
      have hlp := hl.pos
      have z1 : (placeS i).length ≤ 5 := by
        unfold placeS
        rw [len_tl, tl_num]
        exact numL_len (by decide) (by omega)
      refine s_dput (k := Sum.inr ((dd ss).getD i Str.empty)) (v := canonV (dd ss) i) (ev_op (ev_op (ev_op (ev_var rfl) (ev_var rfl) (rv_ixL (sq_of (e7 _ _ hu4)) (atI_nat hxv))) ev_c (rv_ixS (by omega) (c := capOf ((dd ss).getD i Str.empty)) (by rw [show ((dd ss).getD i Str.empty).cps.toList = capOf ((dd ss).getD i Str.empty) :: numL (numOf ((dd ss).getD i Str.empty)) from hl.shape]; exact atI_nat (j := 0) rfl))) (ev_cb (ea_cons (ev_var rfl) ea_nil) (rc_strI (by omega))) (rv_addS (show (⟨#[capOf ((dd ss).getD i Str.empty)]⟩ : Str).length + (placeS i).length ≤ 1000000 by rw [len_one]; omega))) (ev_var rfl)
        (ev_op (ev_var rfl) (ev_var rfl) (rv_ixL (sq_of (e7 _ _ hu4)) (atI_nat hxv))) h7 (by have := madeK_len (n := i) (k := fun i => (Sum.inr ((dd ss).getD i Str.empty) : Key)) (v := canonV (dd ss)); omega) fun H8 e8 => ⟨⟨_, rfl⟩, (e7.trans e8).mut hnH, ?_⟩
      rw [madeK_succ]
      exact upd_same
    obtain ⟨⟨y, rfl⟩, e7, h7⟩ := z
    have hnames : H7 n = some (.dK (canonOf (dd ss))) := h7
    have hp7 := e7 _ _ hp4
    have hu7 := e7 _ _ hu4
    have hq7 := e7 _ _ hq4
    refine q_asgL (el_list (ev_var rfl) (sq_of hp7)) fun g H8 hg e8 h8 => ?_
    have e8' := e7.trans e8
    have fS : ∀ (l : List Str), ∀ x ∈ l.map V.str, flatS x = true := fun l x hx => by
      obtain ⟨y, _, rfl⟩ := List.mem_map.mp hx
      rfl
    have fD : ∀ p ∈ canonOf (dd ss), flatS p.2 = true := made_all (p := fun p => flatS p.2 = true) (fun _ _ => rfl) _
    have hml : (((dd ss).mergeSort (PySem.W.dataLe false keyN)).map V.str).length ≤ 10000 := by
      rw [List.length_map, List.length_mergeSort]
      omega
    have hcl : (canonOf (dd ss)).length ≤ 10000 := Nat.le_trans madeK_len (by omega)
    refine q_when (b := false) (et_is (et_or (et_not (et_B (ev_sameL (el_call1 (ev_var rfl) fun H1 e Q r E => ⟨g, ss, rfl, .inl (sq_of (e _ _ h8)), hlet, by omega, r⟩) (ev_var rfl) (e8 _ _ hq7) (fS _) hml))) fun _ => et_not (et_B (ev_sameL (el_callU (eu_tupL (ev_var rfl) (sq_of (e8 _ _ hp7))) fun t H1 e h Q r E => ⟨t, ss, rfl, .inr (st_of h), hlet, by omega, r⟩) (ev_var rfl) (e8 _ _ hq7) (fS _) hml))) rfl) (fun z => by cases z) (fun _ H9 e9 => ?_)
    refine q_when (b := false) (et_is (et_or (et_not (et_B (ev_same (v := .int (freeOf ss)) (ev_call (ea_cons (ev_var rfl) ea_nil) fun H1 e Q r E => ⟨g, ss, rfl, .inl (sq_of (e _ _ (e9 _ _ h8))), hlet, by omega, r⟩) (ev_var rfl) rfl))) fun _ => et_not (et_B (ev_same (v := .int (freeOf ss)) (ev_callU (eu_tupL (ev_var rfl) (sq_of (e9 _ _ (e8 _ _ hp7)))) fun t H1 e h Q r E => ⟨t, ss, rfl, .inr (st_of h), hlet, by omega, r⟩) (ev_var rfl) rfl))) rfl) (fun z => by cases z) (fun _ H10 e10 => ?_)
    have e10' := (e8.trans e9).trans e10
    refine q_when (b := false) (et_is (et_or (et_not (et_B (ev_sameD (ed_call1 (ev_var rfl) fun H1 e Q r E => ⟨u, dd ss, rfl, .inl (sq_of (e _ _ (e10' _ _ hu7))), hlu, by omega, r⟩) (ev_var rfl) (e10' _ _ hnames) fD hcl))) fun _ => et_not (et_B (ev_sameD (ed_callU (eu_tupL (ev_var rfl) (sq_of (e10' _ _ hu7))) fun t H1 e h Q r E => ⟨t, dd ss, rfl, .inr (st_of h), hlu, by omega, r⟩) (ev_var rfl) (e10' _ _ hnames) fD hcl))) rfl) (fun z => by cases z) (fun _ H11 e11 => ?_)
    have e11' := e10'.trans e11
    have hsl : (ss.map V.str).length ≤ 10000 := by rw [List.length_map]; omega
    refine s_ret (v := .bl true) (ev_andV (a := true) (b := true) (ev_sameLL (ev_var rfl) (ev_var rfl) (e11 _ _ (e10 _ _ (e9 _ _ h8))) (e11' _ _ hp7) (fS _) hsl) fun _ => ev_sameL (el_callL (el_cat (ev_var rfl) (ev_var rfl) (e11' _ _ hu7) (e11' _ _ hp7) (by rw [List.length_map, List.length_map]; omega)) fun t H1 e h Q r E => ⟨t, dd ss ++ ss, rfl, .inl (by rw [List.map_append]; exact sq_of h), fun x hx => (List.mem_append.mp hx).elim (hlu x) (hlet x), by rw [List.length_append]; omega, by rw [dd_more dd_nodup fun y hy => dd_mem.mpr hy]; exact r⟩) (ev_var rfl) (e11' _ _ hq7) (fS _) hml) fun H12 e12 => kk H12 ((e7.trans e11').trans e12)

end
end K00
-- D18
namespace K00
open PySem PySem.Spec PyProof.Rows L2 Evl KEv TL KDd KSq KD KSame KTxt
/-! _law_signs -/
/-- a word that begins with no capital -/
def NameW (x : Str) : Prop := 1 ≤ x.length ∧ x.length ≤ 30 ∧ 32 ∉ tl x ∧ capHead x = false ∧ headIn (tl ("PXQ" : Str)) (tl x) = false
theorem low_name {x : Str} (h : lowS x) (h1 : 1 ≤ x.length) (h2 : x.length ≤ 30) : NameW x := by
  refine ⟨h1, h2, fun z => absurd (h 32 z) (by decide), ?_, ?_⟩
  · unfold capHead
    cases e : tl x with
    | nil => rfl
    | cons c r =>
      have z : ∀ c ∈ tl ("abcdefghijklmnopqrstuvwxyz0123456789" : Str), c ∉ tl capitals := by decide
      exact decide_eq_false (z c (h c (by rw [e]; exact List.mem_cons_self)))
  · cases e : tl x with
    | nil => rfl
    | cons c r =>
      have z : ∀ c ∈ tl ("abcdefghijklmnopqrstuvwxyz0123456789" : Str), c ∉ tl ("PXQ" : Str) := by decide
      exact decide_eq_false (z c (h c (by rw [e]; exact List.mem_cons_self)))
/-- a letter, written small -/
theorem lower_name {x : Str} (hx : IsLet x) (hl : x.length ≤ 20) : NameW (Txt.lower x) := by
  have hc := hx.cap.2
  have e : x = ⟨(capOf x :: numL (numOf x)).toArray⟩ := str_eq_iff.mpr (by rw [hx.shape])
  have hc1 : 65 ≤ capOf x ∧ capOf x ≤ 90 := by
    have z : ∀ c ∈ tl capitals, 65 ≤ c ∧ c ≤ 90 := by decide
    exact z _ hc
  have ha : (capOf x :: numL (numOf x)).all (· < 128) = true := by
    rw [List.all_eq_true]
    intro c h
    rcases List.mem_cons.mp h with rfl | h
    · exact decide_eq_true (by omega)
    · have := numL_digits (numOf x) c h
      exact decide_eq_true (by omega)
  have hlow : tl (Txt.lower x) = (capOf x + 32) :: (numL (numOf x)).map PyProof.Rows.lo1 := by
    have hz := SX.lower_S ha
    have h2 : Txt.lower x = SX.S ((capOf x :: numL (numOf x)).map PyProof.Rows.lo1) := by rw [← hz]; exact congrArg Txt.lower e
    rw [h2]
    show (capOf x :: numL (numOf x)).map PyProof.Rows.lo1 = _
    rw [List.map_cons]
    have : PyProof.Rows.lo1 (capOf x) = capOf x + 32 := if_pos hc1
    rw [this]
  have hdig : ∀ c ∈ (numL (numOf x)).map PyProof.Rows.lo1, 48 ≤ c ∧ c ≤ 57 := fun c h => by
    obtain ⟨y, hy, rfl⟩ := List.mem_map.mp h
    have z := numL_digits (numOf x) y hy
    have : PyProof.Rows.lo1 y = y := if_neg (by omega)
    rw [this]
    exact z
  have hlen : (Txt.lower x).length = x.length := by
    rw [len_tl, hlow, len_tl x, hx.shape, List.length_cons, List.length_cons, List.length_map]
  have hp := hx.pos
  refine ⟨by omega, by omega, fun z => ?_, ?_, ?_⟩
  · rw [hlow] at z
    rcases List.mem_cons.mp z with z | z
    · omega
    · have := hdig _ z
      omega
  · unfold capHead
    rw [hlow]
    refine decide_eq_false fun z => ?_
    have z1 : ∀ c ∈ tl capitals, 65 ≤ c ∧ c ≤ 90 := by decide
    have := z1 _ z
    omega
  · rw [hlow]
    refine decide_eq_false fun z => ?_
    have z1 : ∀ c ∈ tl ("PXQ" : Str), 65 ≤ c ∧ c ≤ 90 := by decide
    have := z1 _ z
    omega
/-- a row of signs: name, kinds, kind; it does not lie at L -/
def SignRow (L : Addr) (B : Hp) (v : V) : Prop := ∃ (r kp : Addr) (nm : Str) (ks : List Nat) (res : Nat), v = .ref r ∧ r ≠ L ∧ kp ≠ L ∧ B r = some (.lst [.str nm, .ref kp, .int (res : Int)]) ∧ B kp = some (.lst (ks.map fun k => V.int ((k : Nat) : Int))) ∧ NameW nm ∧ ks.length ≤ 4 ∧ (∀ k ∈ ks, k < 3) ∧ res < 3
theorem SignRow.mono {L : Addr} {B B' : Hp} {v : V} (h : SignRow L B v) (e : Ex B B') : SignRow L B' v := by
  obtain ⟨r, kp, nm, ks, res, h0, h1, h2, h3, h4, h5⟩ := h
  exact ⟨r, kp, nm, ks, res, h0, h1, h2, e _ _ h3, e _ _ h4, h5⟩
theorem SignRow.upd {L : Addr} {B : Hp} {v : V} {o : HO} (h : SignRow L B v) : SignRow L (upd B L o) v := by
  obtain ⟨r, kp, nm, ks, res, h0, h1, h2, h3, h4, h5⟩ := h
  exact ⟨r, kp, nm, ks, res, h0, h1, h2, by rw [upd_ne h1]; exact h3, by rw [upd_ne h2]; exact h4, h5⟩
def SignsAt (B : Hp) (L : Addr) : Prop := ∃ us, B L = some (.lst us) ∧ us.length ≤ 50 ∧ ∀ v ∈ us, SignRow L B v
theorem SignsAt.mono {L : Addr} {B B' : Hp} (h : SignsAt B L) (e : Ex B B') : SignsAt B' L := by
  obtain ⟨us, h1, h2, h3⟩ := h
  exact ⟨us, e _ _ h1, h2, fun v hv => (h3 v hv).mono e⟩
theorem eg_lowG {σ : L2.St} {B : Hp} {d : Addr} {to : TE} {R R' : V → Hp → Prop} (h : EvG to σ B d R) (hr : ∀ v B', R v B' → ∃ a : Str, v = .str a ∧ a.length ≤ 1000 ∧ R' (.str (Txt.lower a)) B') : EvG (tM0 rLower to) σ B d R' := fun H s Q q => h H s _ fun v B' H' e s' r => by
  obtain ⟨a, rfl, hl, r'⟩ := hr v B' r
  exact ⟨⟨a, rfl⟩, a, rfl, rfl, by omega, q _ B' H' e s' r'⟩
def headV (B : Hp) : V → V
  | .ref r => match B r with
    | some (.lst (x :: _)) => x
    | _ => .non
  | _ => .non
abbrev spSigns : Sp := spGen (fun rest _ => rest = []) (fun _ v B => ∃ p, v = .ref p ∧ SignsAt B p)
theorem scSg : FnScope ["draws", "signs", "k", "name", "kinds", "j", "row"] ["draws"] (defScope (topS 25)) := ⟨rfl, rfl, rfl, by decide +kernel, rfl, by decide +kernel, by decide +kernel⟩
section
variable {P : Program} {w : World} {K : PySem.W.Frag} {mg : Str → Option Value} {base : Heap}
theorem ok_signs {f ft fl fs : Addr} {fd fdt fdl fds : FuncData} (D : DefAt K mg 25 "_law_signs" ["draws"] f fd) (T : GenAt P w K mg base 1 "_law_take" ["draws", "many"] spTake ft fdt) (L : GenAt P w K mg base 2 "_law_letter" ["draws", "many"] spLetter fl fdl) (S : GenAt P w K mg base 2 "_law_small" ["draws", "many"] spSmall fs fds) (mr : mg "range" = none) : FnOk P w K mg base CX0 3 f fd ["draws"] spSigns := by
  refine D.F.ok scSg (fun vs H Q E h => ?_) (fun cdv A outer s H vs Q E hr h => ?_)
  · obtain ⟨d, rest, rfl, _, rfl, _⟩ := h
    rfl
  · obtain ⟨d, rest, rfl, hd, rfl, k⟩ := h
    refine ⟨_, pss_cons (ps_asg (pe_lst pa_nil) (pg_name (i := 1) scSg.nd rfl (.inl rfl))) (pss_cons (ps_for PassesOwn.never rfl (pi_range1 (by rfl) mr (pa_cons (pe_op op_add pe_int (pe_call T.F (hr.mono (by decide)) (by rfl) T.g T.kp T.b .nil pass0 (pa_cons (pv 0) (pa_cons pe_int pa_nil)))) pa_nil)) (pg_name (i := 2) scSg.nd rfl (.inl rfl)) (pss_cons (ps_asg (pe_lowerS (pe_call L.F (hr.mono (by decide)) (by rfl) L.g L.kp L.b .nil pass0 (pa_cons (pv 0) (pa_cons (pe_op op_add pe_int (pe_call T.F (hr.mono (by decide)) (by rfl) T.g T.kp T.b .nil pass0 (pa_cons (pv 0) (pa_cons pe_int pa_nil)))) pa_nil)))) (pg_name (i := 3) scSg.nd rfl (.inl rfl))) (pss_cut (ps_if (pt_cmpR op_eq (pe_call T.F (hr.mono (by decide)) (by rfl) T.g T.kp T.b .nil pass0 (pa_cons (pv 0) (pa_cons pe_int pa_nil))) pe_int (nomark _)) (pss_one (ps_asg (pe_call S.F (hr.mono (by decide)) (by rfl) S.g S.kp S.b .nil pass0 (pa_cons (pv 0) (pa_cons (pe_op op_add pe_int (pe_call T.F (hr.mono (by decide)) (by rfl) T.g T.kp T.b .nil pass0 (pa_cons (pv 0) (pa_cons pe_int pa_nil)))) pa_nil))) (pg_name (i := 3) scSg.nd rfl (.inl rfl)))) pss_nil) (pss_cons (ps_setLc (i := 4) (own := [("j", 5)]) (g := gName 5) (tt := tYes) rfl scSg.nd rfl rfl (sw_true rfl rfl rfl (by decide +kernel)) (pi_range1 (by rfl) mr (pa_cons (pe_call T.F (hr.mono (by decide)) (by rfl) T.g T.kp T.b .nil pass0 (pa_cons (pv 0) (pa_cons pe_int pa_nil))) pa_nil)) (blkOk_by (own := [("j", 5)]) (N := ["draws", "signs", "k", "name", "kinds", "j", "row"]) (sc := defScope (topS 25)) (by decide +kernel)) (fun _ _ _ _ _ => pg_name (i := 5) scSg.nd rfl (.inl rfl)) (fun _ _ _ _ _ => pts_nil) (fun _ _ _ _ _ => (pe_call T.F (hr.mono (by decide)) (by rfl) T.g T.kp T.b .nil pass0 (pa_cons (pv 0) (pa_cons pe_int pa_nil))))) (pss_one (ps_if (pt_cmpR op_notIn_seq (pv 3) (pe_lc (own := [("row", 6)]) (g := gName 6) (tt := tYes) rfl scSg.nd (pi_list (pv 1)) (blkOk_by (own := [("row", 6)]) (N := ["draws", "signs", "k", "name", "kinds", "j", "row"]) (sc := defScope (topS 25)) (by decide +kernel)) (fun _ _ _ _ _ => pg_name (i := 6) scSg.nd rfl (.inl rfl)) (fun _ _ _ _ _ => pts_nil) (fun _ _ _ _ _ => (pe_ix (r := rIxL K) ix_list (pv 6) pe_int (fun _ _ => rfl)))) rfl) (pss_one (ps_expr (pe_bm PySem.F.plainAttrs_list PySem.F.slot_list_append PySem.F.type_list_append mt_append (pv 1) (pa_cons (pe_lst (pa_cons (pv 3) (pa_cons (pv 4) (pa_cons (pe_call T.F (hr.mono (by decide)) (by rfl) T.g T.kp T.b .nil pass0 (pa_cons (pv 0) (pa_cons pe_int pa_nil))) pa_nil)))) pa_nil)))) pss_nil)))))) (pss_one (ps_ret (pv 1)))), ?_⟩
    have s0 := Sd.of hd
    refine q_asgL (el_lst ea_nil (by decide)) fun p H1 hp e1 h1 => ?_
    have nb : (hide H d) p = none := fresh_back hide_ex hp
    have s1 : Sd (upd (hide H d) p (.lst [])) d H1 := (s0.mono e1).known (s0.ne hp) h1
    refine gq_range (m := 5) (d := d) (eg_opV (Rb := fun v _ => ∃ n : Nat, v = .int (n : Int) ∧ (n : Int) < 5) ev_c (eg_takeN (m := 5) (ev_var rfl) ev_c (by decide)) fun v _ _ r => ?_) s1 (by decide) (fun i σ H2 => ∃ (B2 : Hp) (us : List V) (u2 u3 u4 u5 u6 : Option V), Ex (hide H d) B2 ∧ Sd B2 d H2 ∧ B2 p = some (.lst us) ∧ us.length ≤ i ∧ (∀ v ∈ us, SignRow p B2 v) ∧ σ = [some (.ref d), some (.ref p), u2, u3, u4, u5, u6])
      (fun B2 H2 e2 s2 => ⟨B2, [], _, _, _, _, _, (Ex.new nb).trans e2, s2, e2 _ _ upd_same, Nat.le_refl _, fun x hx => absurd hx (by simp), rfl⟩) (fun i σ H2 hi q => ?_) (fun n σ H2 hn q => ?_)
    · obtain ⟨n, rfl, hn⟩ := r
      exact ⟨_, rv_I0, n + 1, by congr 1; omega, by omega⟩
    · obtain ⟨B2, us, u2, u3, u4, u5, u6, e2, s2, h2, hl, hus, rfl⟩ := q
      refine gq_asg (B := B2) (d := d) (R := fun v _ => ∃ nm : Str, v = .str nm ∧ NameW nm) (eg_lowG (eg_letter (n := 2) (ev_var rfl) (eg_opV (Rb := fun v _ => ∃ n : Nat, v = .int (n : Int) ∧ (n : Int) < 2) ev_c (eg_takeN (m := 2) (ev_var rfl) ev_c (by decide)) fun v _ _ r => ?_) (by decide)) fun v B' r => ?_) s2 fun v B3 H3 e3 s3 r => ?_
      · obtain ⟨n, rfl, hn⟩ := r
        exact ⟨_, rv_I0, n + 1, by congr 1; omega, by omega, by omega⟩
      · obtain ⟨x, rfl, hx, hxl⟩ := r
        exact ⟨x, rfl, by omega, _, rfl, lower_name hx (by omega)⟩
      obtain ⟨nm0, rfl, hnm0⟩ := r
      have h3 := e3 _ _ h2
      have e3' := e2.trans e3
      refine q_cut (M := fun σ H4 => ∃ (B4 : Hp) (nm : Str), Ex B3 B4 ∧ Sd B4 d H4 ∧ NameW nm ∧ σ = [some (.ref d), some (.ref p), some (.int (i : Int)), some (.str nm), u4, u5, u6]) ?_ fun σ H4 q => ?_
      · refine g_if (Rt := fun _ _ => True) (egt_test (R := fun v _ => ∃ b, v = .bl b) (eg_opW (Rb := fun v _ => ∃ n : Nat, v = .int (n : Int) ∧ (n : Int) < 2) (eg_takeN (m := 2) (ev_var rfl) ev_c (by decide)) (fun _ _ _ _ => ev_c) fun v _ _ r => ?_) fun v _ _ r => ?_) s3 (fun B4 H4 e4 s4 _ => ?_) (fun B4 H4 e4 s4 _ => ?_)
        · obtain ⟨n, rfl, hn⟩ := r
          exact ⟨_, rv_eq rfl, _, rfl⟩
        · obtain ⟨b, rfl⟩ := r
          exact ⟨b, rfl, trivial⟩
        · refine g_asg (R := fun v _ => ∃ nm : Str, v = .str nm ∧ NameW nm) (eg_call1 (R1 := fun v _ => ∃ n : Nat, v = .int (n : Int) ∧ 1 ≤ n ∧ n ≤ 24) (ev_var rfl) (eg_opV (Rb := fun v _ => ∃ n : Nat, v = .int (n : Int) ∧ (n : Int) < 24) ev_c (eg_takeN (m := 24) (ev_var rfl) ev_c (by decide)) fun v _ _ r => ?_) (fun v _ _ _ r _ => ?_) fun v u _ _ _ r _ c => ?_) s4 fun v B5 H5 e5 s5 r => ?_
          · obtain ⟨n, rfl, hn⟩ := r
            exact ⟨_, rv_I0, n + 1, by congr 1; omega, by omega, by omega⟩
          · obtain ⟨n, rfl, hn⟩ := r
            exact ⟨n, rfl, by omega⟩
          · obtain ⟨n, rfl, hn⟩ := r
            obtain ⟨m, x, em, rfl, hxl, hlow⟩ := c
            have : (n : Int) = (m : Int) := V.int.inj (List.cons.inj em).1
            exact ⟨x, rfl, low_name hlow (by omega) (by omega)⟩
          · obtain ⟨nm, rfl, hnm⟩ := r
            exact ⟨B5, nm, e4.trans e5, s5, hnm, rfl⟩
        · exact ⟨B4, nm0, e4, s4, hnm0, rfl⟩
      obtain ⟨B4, nm, e4, s4, hnm, rfl⟩ := q
      have h4 := e4 _ _ h3
      have e4' := e3'.trans e4
      refine gq_asg (eg_lcR (n0 := 4) (Kp := fun _ v _ => ∃ k : Nat, v = .int (k : Int) ∧ (k : Int) < 3) (ega_sd (ega_one (eg_takeN (m := 5) (ev_var rfl) ev_c (by decide))) fun us _ _ r => ?_) (by decide) (fun x => rfl) (fun _ _ _ _ h _ => h) (fun _ _ _ _ h => h) (fun i L B4 _ _ => eg_takeN (m := 3) (ev_var rfl) ev_c (by decide))) s4 fun v B5 H5 e5 s5 r => ?_
      · obtain ⟨v, rfl, n, rfl, hn⟩ := r
        exact ⟨n, rfl, by omega⟩
      obtain ⟨kp, kvs, rfl, hkn, hk5, hkl, hkv⟩ := r
      obtain ⟨ks, rfl, hks⟩ : ∃ ks : List Nat, kvs = ks.map (fun k => V.int ((k : Nat) : Int)) ∧ ∀ k ∈ ks, k < 3 := by
        clear hk5 hkl
        induction kvs with
        | nil => exact ⟨[], rfl, fun y hy => absurd hy (by simp)⟩
        | cons v r ih =>
          obtain ⟨ys, h1, h2⟩ := ih fun x hx2 => hkv x (List.mem_cons_of_mem _ hx2)
          obtain ⟨n, rfl, hn⟩ := hkv _ List.mem_cons_self
          refine ⟨n :: ys, by rw [h1]; rfl, fun y hy => ?_⟩
          rcases List.mem_cons.mp hy with rfl | hy
          · omega
          · exact h2 y hy
      rw [List.length_map] at hkl
      have h5 := e5 _ _ h4
      have hkp : kp ≠ p := fun z => by
        rw [z, h4] at hkn
        cases hkn
      have e5' := e4'.trans e5
      have hus5 : ∀ v ∈ us, SignRow p B5 v := fun v hv => (hus v hv).mono ((e3.trans e4).trans e5)
      have hlist := el_lcL (K := K) (σ := [some (.ref d), some (.ref p), some (.int (i : Int)), some (.str nm), some (.ref kp), u5, u6]) (H := B5) (t := tYes) (te := tOp (rIxL K) (tVar 6) (tC (.int 0))) (j := 6) (vs := [6]) (tl := tVar 1) (fun _ => true) (fun i => headV B5 (us.getD i .non)) (ev_var rfl) (sq_of h5) (by omega) (fun x => rfl) (fun _ _ _ _ _ => yes_T) (fun i x H1 e1 hx _ => by
        obtain ⟨r, kp2, nm2, ks2, res2, rfl, _, _, hr, _⟩ := hus5 x (List.mem_of_getElem? hx)
        have hg : us.getD i .non = .ref r := by
          rw [List.getD_eq_getElem?_getD, hx]
          rfl
        have hh : headV B5 (us.getD i .non) = .str nm2 := by
          rw [hg]
          unfold headV
          simp only
          rw [hr]
        rw [hh]
        exact ev_op (ev_var rfl) ev_c (rv_ixL (sq_of (e1 _ _ hr)) (atI_nat (j := 0) rfl)))
      have hflat : (given us.length (fun _ => true) fun i => headV B5 (us.getD i .non)).all flatV = true := by
        rw [given_all fun _ _ => rfl, List.all_eq_true]
        intro v hv
        obtain ⟨j, hj, rfl⟩ := List.mem_map.mp hv
        have hj := List.mem_range.mp hj
        obtain ⟨r, kp2, nm2, ks2, res2, hg, _, _, hr, _⟩ := hus5 (us.getD j .non) (by
          rw [List.getD_eq_getElem?_getD, List.getElem?_eq_getElem hj]
          exact List.getElem_mem hj)
        rw [hg]
        unfold headV
        simp only
        rw [hr]
        rfl
      refine g_if (egt_lift (et_test (ev_opL (ev_var rfl) hlist fun q H1 hq e1 => rv_niL (sq_of hq) rfl hflat))) s5 (fun B6 H6 e6 s6 _ => ?_) (fun B6 H6 e6 s6 _ => ?_)
      · refine g_app (e6 _ _ h5) (fun _ => ev_var rfl) (eg_lst (Rs := fun ws _ => ∃ res : Nat, ws = [.str nm, .ref kp, .int (res : Int)] ∧ res < 3) (ega_sd (ega_consV (ev_var rfl) (ega_consV (ev_var rfl) (ega_one (eg_takeN (m := 3) (ev_var rfl) ev_c (by decide))))) fun ws _ _ z => ?_) fun ws _ z => ?_) (by omega) s6 fun v B7 H7 e7 r s7 => ?_
        · obtain ⟨r1, rfl, r2, rfl, v, rfl, n, rfl, hn⟩ := z
          exact ⟨n, rfl, by omega⟩
        · obtain ⟨res, rfl, _⟩ := z
          exact (show 3 ≤ 100000 by decide)
        · obtain ⟨r, ws, B8, rfl, hr6, hr8, e8, rfl, res, rfl, hres⟩ := r
          have hrp : r ≠ p := fun z => by
            rw [z, e6 _ _ h5] at hr6
            cases hr6
          refine ⟨_, us ++ [.ref r], _, _, _, _, _, ((e5'.trans e6).trans e7).mut nb, s7, upd_same, by rw [List.length_append, List.length_singleton]; omega, fun v hv => ?_, rfl⟩
          rcases List.mem_append.mp hv with z | z
          · exact ((hus5 v z).mono (e6.trans e7)).upd
          · rw [List.mem_singleton.mp z]
            exact SignRow.upd ⟨r, kp, nm, ks, res, rfl, hrp, hkp, upd_same, e7 _ _ (e6 _ _ hk5), hnm, hkl, hks, hres⟩
      · exact ⟨B6, us, _, _, _, _, _, e5'.trans e6, s6, e6 _ _ h5, by omega, fun v hv => (hus5 v hv).mono e6, rfl⟩
    · obtain ⟨B2, us, u2, u3, u4, u5, u6, e2, s2, h2, hl, hus, rfl⟩ := q
      exact s_ret (ev_var rfl) fun H3 e3 => k _ B2 H3 e2 (s2.mono e3) ⟨p, rfl, us, h2, by omega, hus⟩

end
end K00
-- D19
namespace K00
open PySem PySem.Spec PyProof.Rows L2 Evl KEv TL KDd KSq KD KSame KTxt
/-! _law_term -/
def WordOk (x : Str) : Prop := 1 ≤ x.length ∧ x.length ≤ 30 ∧ 32 ∉ tl x ∧ capHead x = headIn (tl ("PXQ" : Str)) (tl x)
theorem NameW.word {x : Str} (h : NameW x) : WordOk x := ⟨h.1, h.2.1, h.2.2.1, by rw [h.2.2.2.1, h.2.2.2.2]⟩
theorem pxq_word {c n : Nat} (hc : c ∈ tl ("PXQ" : Str)) (hn : n < 10 ^ 10) : WordOk ((⟨#[c]⟩ : Str) ++ Str.ofString (toString (n : Int))) := by
  have e : tl ((⟨#[c]⟩ : Str) ++ Str.ofString (toString (n : Int))) = c :: numL n := by
    rw [tl_append, tl_num]
    rfl
  have hl := numL_len (k := 10) (by decide) hn
  have hz : ∀ c ∈ tl ("PXQ" : Str), c ≠ 32 ∧ c ∈ tl capitals := by decide
  have z := hz c hc
  refine ⟨by rw [len_tl, e]; simp, by rw [len_tl, e, List.length_cons]; omega, fun h => ?_, ?_⟩
  · rw [e] at h
    rcases List.mem_cons.mp h with h | h
    · exact z.1 h.symm
    · have := numL_digits n 32 h
      omega
  · unfold capHead
    rw [e]
    show decide (c ∈ tl capitals) = decide (c ∈ tl ("PXQ" : Str))
    rw [decide_eq_true z.2, decide_eq_true hc]
def fitB (B : Hp) (here room : Int) : V → Bool
  | .ref r => match B r with
    | some (.lst [_, .ref kp, .int res]) => decide (V.int res = V.int here) && (match B kp with
      | some (.lst ks) => decide ((ks.length : Int) ≤ room)
      | _ => false)
    | _ => false
  | _ => false
theorem given_mem {n : Nat} {f : Nat → Bool} {v : Nat → V} {x : V} (h : x ∈ given n f v) : ∃ i, i < n ∧ x = v i := by
  unfold given at h
  obtain ⟨i, hi, rfl⟩ := List.mem_map.mp h
  exact ⟨i, List.mem_range.mp ((List.mem_filter.mp hi).1), rfl⟩
section
variable {K : PySem.W.Frag} {σ : L2.St} {B H : Hp} {d : Addr} {tb : TE} {tz : TS} {D : Ends}
theorem gq_pop {l : Addr} {xs : List V} {y : V} {i : Nat} (hl : B l = some (.lst (xs ++ [y]))) (ha : Ev tb σ B (.ref l)) (s : Sd B d H) (k : ∀ H1, Sd (upd B l (.lst xs)) d H1 → tz D (σ.set i (some y)) H1) : tSeq (tAsg (tBM0 K "list" rPop tb) (gName i)) tz D σ H :=
  ha H s.ex _ fun H1 e1 => ⟨.inl ⟨rfl, _, sq_of (e1 _ _ (s.ex _ _ hl))⟩, l, xs ++ [y], y, rfl, rfl, e1 _ _ (s.ex _ _ hl), by simp, by
    have z := (s.mono e1).change (o := .lst xs) hl
    have e : (xs ++ [y]).dropLast = xs := by simp
    rw [e]
    exact k _ z⟩
end
def natV (ds : List Nat) : List V := ds.map fun k => V.int ((k : Nat) : Int)
abbrev spTerm : Sp := spGen (fun rest H => ∃ (p : Addr) (kd n : Nat), rest = [.ref p, .int (kd : Int), .int (n : Int)] ∧ SignsAt H p ∧ kd < 3 ∧ 1 ≤ n ∧ n ≤ 200) (fun _ v B => ∃ q, ∃ ws : List Str, v = .ref q ∧ B q = some (.lst (ws.map V.str)) ∧ ws ≠ [] ∧ ws.length ≤ 200 ∧ ∀ x ∈ ws, WordOk x)
theorem scTm : FnScope ["draws", "signs", "kind", "budget", "words", "due", "k", "here", "room", "fitting", "sign", "argument", "row"] ["draws", "signs", "kind", "budget"] (defScope (topS 26)) := ⟨rfl, rfl, rfl, by decide +kernel, rfl, by decide +kernel, by decide +kernel⟩
section
variable {P : Program} {w : World} {K : PySem.W.Frag} {mg : Str → Option Value} {base : Heap}
theorem ok_term {f ft : Addr} {fd fdt : FuncData} (D : DefAt K mg 26 "_law_term" ["draws", "signs", "kind", "budget"] f fd) (T : GenAt P w K mg base 1 "_law_take" ["draws", "many"] spTake ft fdt) (N : Nm mg) (mr : mg "range" = none) (mv : mg "reversed" = none) (mst : mg "str" = none) : FnOk P w K mg base CX0 2 f fd ["draws", "signs", "kind", "budget"] spTerm := by
  refine D.F.ok scTm (fun vs H Q E h => ?_) (fun cdv A outer s H vs Q E hr h => ?_)
  · obtain ⟨d, rest, rfl, _, ⟨p, kd, n, rfl, _⟩, _⟩ := h
    rfl
  · obtain ⟨d, rest, rfl, hd, ⟨p, kd, n, rfl, hsg, hkd, hn1, hn2⟩, k⟩ := h
    refine ⟨_, pss_cons (ps_asg (pe_lst pa_nil) (pg_name (i := 4) scTm.nd rfl (.inl rfl))) (pss_cons (ps_asg (pe_lst (pa_cons (pv 2) pa_nil)) (pg_name (i := 5) scTm.nd rfl (.inl rfl))) (pss_cons (ps_for PassesOwn.never rfl (pi_range1 (by rfl) mr (pa_cons (pv 3) pa_nil)) (pg_name (i := 6) scTm.nd rfl (.inl rfl)) (pss_cons (ps_if (pt_not (pt_tru (pv 5))) (pss_one ps_break) pss_nil) (pss_cons (ps_asg (pe_bm0 PySem.F.plainAttrs_list PySem.F.slot_list_pop PySem.F.type_list_pop mt_pop (pv 5)) (pg_name (i := 7) scTm.nd rfl (.inr rfl))) (pss_cons (ps_asg (pe_op op_sub (pe_op op_sub (pe_op op_sub (pv 3) (pe_callB call_len_seq (by rfl) N.len PySem.boot_len (pa_cons (pv 4) pa_nil))) (pe_callB call_len_seq (by rfl) N.len PySem.boot_len (pa_cons (pv 5) pa_nil))) pe_int) (pg_name (i := 8) scTm.nd rfl (.inr rfl))) (pss_cons (ps_setLc (i := 9) (own := [("row", 12)]) (g := gName 12) rfl scTm.nd rfl rfl (sw_true rfl rfl rfl (by decide +kernel)) (pi_list (pv 1)) (blkOk_by (own := [("row", 12)]) (N := ["draws", "signs", "kind", "budget", "words", "due", "k", "here", "room", "fitting", "sign", "argument", "row"]) (sc := defScope (topS 26)) (by decide +kernel)) (fun _ _ _ _ _ => pg_name (i := 12) scTm.nd rfl (.inl rfl)) (fun _ _ _ _ _ => pts_one (PW.pt (pw_and (pt_cmpR op_eq (pe_ix (r := rIxL K) ix_list (pv 12) pe_int (fun _ _ => rfl)) (pv 7) (nomark _)) (pw_and1 (pt_cmpR op_le (pe_callB (r := rLenS K) call_len_seq (by rfl) N.len PySem.boot_len (pa_cons (pe_ix (r := rIxL K) ix_list (pv 12) pe_int (fun _ _ => rfl)) pa_nil)) (pv 8) (nomark _)))))) (fun _ _ _ _ _ => pv 12)) (pss_one (ps_if (PW.pt (pw_and (pt_tru (pv 9)) (pw_and1 (pt_cmpR op_lt (pe_call T.F (hr.mono (by decide)) (by rfl) T.g T.kp T.b .nil pass0 (pa_cons (pv 0) (pa_cons pe_int pa_nil))) pe_int (nomark _))))) (pss_cons (ps_asg (pe_ix (r := rIxL K) ix_list (pv 9) (pe_call T.F (hr.mono (by decide)) (by rfl) T.g T.kp T.b .nil pass0 (pa_cons (pv 0) (pa_cons (pe_callB call_len_seq (by rfl) N.len PySem.boot_len (pa_cons (pv 9) pa_nil)) pa_nil))) (fun _ _ => rfl)) (pg_name (i := 10) scTm.nd rfl (.inl rfl))) (pss_cons (ps_expr (pe_bm PySem.F.plainAttrs_list PySem.F.slot_list_append PySem.F.type_list_append mt_append (pv 4) (pa_cons (pe_ix (r := rIxL K) ix_list (pv 10) pe_int (fun _ _ => rfl)) pa_nil))) (pss_one (ps_for PassesOwn.never rfl (RT.pi_revA (by rfl) mv (pe_ix (r := rIxL K) ix_list (pv 10) pe_int (fun _ _ => rfl))) (pg_name (i := 11) scTm.nd rfl (.inl rfl)) (pss_one (ps_expr (pe_bm PySem.F.plainAttrs_list PySem.F.slot_list_append PySem.F.type_list_append mt_append (pv 5) (pa_cons (pv 11) pa_nil)))))))) (pss_one (ps_expr (pe_bm PySem.F.plainAttrs_list PySem.F.slot_list_append PySem.F.type_list_append mt_append (pv 4) (pa_cons (pe_op op_addS (pe_ix ix_str pe_str (pv 7) (fun _ _ => rfl)) (pe_callTy call_strI (by rfl) mst (by decide +kernel) (pa_cons (pe_ix (r := rIxL K) ix_list (pe_lst (pa_cons pe_int (pa_cons pe_int (pa_cons pe_int (pa_cons pe_int (pa_cons pe_int (pa_cons pe_int (pa_cons pe_int pa_nil)))))))) (pe_call T.F (hr.mono (by decide)) (by rfl) T.g T.kp T.b .nil pass0 (pa_cons (pv 0) (pa_cons pe_int pa_nil))) (fun _ _ => rfl)) pa_nil))) pa_nil))))))))))) (pss_one (ps_ret (pv 4))))), ?_⟩
    obtain ⟨us, hp, hul, hus⟩ := hsg
    have s0 := Sd.of hd
    refine q_asgL (el_lst ea_nil (by decide)) fun wp H1 hw0 e1 h1 => ?_
    have nw : (hide H d) wp = none := fresh_back hide_ex hw0
    have s1 : Sd (upd (hide H d) wp (.lst [])) d H1 := (s0.mono e1).known (s0.ne hw0) h1
    refine q_asgL (el_lst (ea_cons (ev_var rfl) ea_nil) (show 1 ≤ 100000 by decide)) fun qp H2 hq0 e2 h2 => ?_
    have nq1 : (upd (hide H d) wp (.lst [])) qp = none := fresh_back s1.ex hq0
    have hqw : qp ≠ wp := fun z => by
      rw [z, upd_same] at nq1
      cases nq1
    have nq : (hide H d) qp = none := by
      rw [upd_ne hqw] at nq1
      exact nq1
    have s2 : Sd (upd (upd (hide H d) wp (.lst [])) qp (.lst [.int (kd : Int)])) d H2 := (s1.mono e2).known (s1.ne hq0) h2
    have hus0 : ∀ v ∈ us, ∀ B, Ex (hide H d) B → SignRow p B v := fun v hv B e => (hus v hv).mono e
    have fin : ∀ (D' : Ends) (σ : L2.St) (B2 : Hp) (H3 : Hp) (ws : List Str), D'.rt = Q → Ex (hide H d) B2 → Sd B2 d H3 → B2 wp = some (.lst (ws.map V.str)) → ws ≠ [] → ws.length ≤ 200 → (∀ x ∈ ws, WordOk x) → σ[4]? = some (some (.ref wp)) → tRet (tVar 4) D' σ H3 := fun D' σ B2 H3 ws eD e s hw hn hl hx hσ => by
      refine s_ret (ev_var hσ) fun H4 e4 => ?_
      rw [eD]
      exact k _ B2 H4 e (s.mono e4) ⟨wp, ws, rfl, hw, hn, hl, hx⟩
    refine g_range (n := n) (B := upd (upd (hide H d) wp (.lst [])) qp (.lst [.int (kd : Int)])) (d := d) (ea_cons (ev_var rfl) ea_nil) s2 (by omega) (fun i σ H3 => ∃ (B2 : Hp) (ws : List Str) (ds : List Nat) (u6 u7 u8 u9 u10 u11 u12 : Option V), Ex (hide H d) B2 ∧ Sd B2 d H3 ∧ B2 wp = some (.lst (ws.map V.str)) ∧ B2 qp = some (.lst (natV ds)) ∧ ws.length = i ∧ (∀ x ∈ ws, WordOk x) ∧ (∀ k ∈ ds, k < 3) ∧ ds.length ≤ 1 + 4 * i ∧ (i = 0 → ds ≠ []) ∧
      σ = [some (.ref d), some (.ref p), some (.int (kd : Int)), some (.int (n : Int)), some (.ref wp), some (.ref qp), u6, u7, u8, u9, u10, u11, u12])
      (fun H3 s3 => ⟨_, [], [kd], _, _, _, _, _, _, _, (Ex.new nw).trans (Ex.new nq1), s3, by rw [upd_ne (Ne.symm hqw)]; exact upd_same, upd_same, rfl, fun x hx => absurd hx (by simp), fun k hk => by rw [List.mem_singleton.mp hk]; exact hkd, Nat.le_refl _, fun _ => by simp, rfl⟩) (fun i σ H3 hi q => ?_) (fun σ H3 q => ?_)
    · obtain ⟨B2, ws, ds, u6, u7, u8, u9, u10, u11, u12, e2, s2, hw, hq, hwl, hws, hds, hdl, hd0, rfl⟩ := q
      refine q_when (b := ds.isEmpty) (et_is (et_not (et_truL (xs := natV ds) (ev_var rfl) (sq_of (s2.ex _ _ hq)))) (by rw [Bool.not_not]; cases ds <;> rfl)) (fun hb H4 e4 => ?_) (fun hb H4 e4 => ?_)
      · have hde : ds = [] := List.isEmpty_iff.mp hb
        have hi0 : i ≠ 0 := fun z => hd0 z hde
        exact fin _ _ B2 H4 ws rfl e2 (s2.mono e4) hw (fun z => by rw [z] at hwl; exact hi0 hwl.symm) (by omega) hws rfl
      have hdn : ds ≠ [] := fun z => by
        rw [z] at hb
        cases hb
      obtain ⟨ini, here, hds2⟩ : ∃ ini here, ds = ini ++ [here] := ⟨_, _, (List.dropLast_concat_getLast hdn).symm⟩
      have hh : here < 3 := hds here (by rw [hds2]; exact List.mem_append_right _ List.mem_cons_self)
      have hini : ∀ k ∈ ini, k < 3 := fun k hk => hds k (by rw [hds2]; exact List.mem_append_left _ hk)
      have hil : ini.length ≤ 4 * i := by
        have := congrArg List.length hds2
        rw [List.length_append, List.length_singleton] at this
        omega
      refine gq_pop (l := qp) (xs := natV ini) (y := .int (here : Int)) (by rw [hq, hds2]; unfold natV; rw [List.map_append]; rfl) (ev_var rfl) (s2.mono e4) fun H5 s5 => ?_
      have e5 : Ex (hide H d) (upd B2 qp (.lst (natV ini))) := e2.mut nq
      have hw5 : (upd B2 qp (.lst (natV ini))) wp = some (.lst (ws.map V.str)) := by
        rw [upd_ne (Ne.symm hqw)]
        exact hw
      have hq5 : (upd B2 qp (.lst (natV ini))) qp = some (.lst (natV ini)) := upd_same
      generalize (upd B2 qp (.lst (natV ini))) = B5 at s5 e5 hw5 hq5
      refine gq_asg (B := B5) (d := d) (eg_ev (ev_op (ev_op (ev_op (ev_var rfl) (ev_len (ev_var rfl) (sq_of hw5)) rv_I0) (ev_len (ev_var rfl) (sq_of hq5)) rv_I0) ev_c rv_I0)) s5 fun v B6 H6 e6 s6 r => ?_
      subst r
      generalize ((n : Int) - (((ws.map V.str).length : Nat) : Int) - (((natV ini).length : Nat) : Int) - 1) = rm
      have hp6 : B6 p = some (.lst us) := e6 _ _ (e5 _ _ hp)
      have e6' := e5.trans e6
      have hw6 := e6 _ _ hw5
      have hq6 := e6 _ _ hq5
      refine gq_asg (eg_liftL (xs := given us.length (fun i => fitB B6 (here : Int) rm (us.getD i .non)) (fun i => us.getD i .non)) (el_lcL (K := K) (fun i => fitB B6 (here : Int) rm (us.getD i .non)) (fun i => us.getD i .non) (ev_var rfl) (sq_of hp6) (by omega) (fun x => rfl) (fun j x H1 e1 hx => ?_) (fun j x H1 e1 hx _ => ?_))) s6 fun v B7 H7 e7 s7 r => ?_
      · obtain ⟨r, kp, nm, ks, res, rfl, _, _, hr, hkp, _⟩ := hus0 x (List.mem_of_getElem? hx) B6 e6'
        have hg : us.getD j .non = .ref r := by
          rw [List.getD_eq_getElem?_getD, hx]
          rfl
        have hf : fitB B6 (here : Int) rm (us.getD j .non) = (decide (V.int (res : Int) = V.int (here : Int)) && decide ((((ks.map fun k => V.int ((k : Nat) : Int)).length : Nat) : Int) ≤ rm)) := by
          rw [hg]
          unfold fitB
          simp only
          rw [hr]
          simp only
          rw [hkp]
        rw [hf]
        exact et_and (et_test (ev_op (ev_op (ev_var rfl) ev_c (rv_ixL (sq_of (e1 _ _ hr)) (atI_nat (j := 2) rfl))) (ev_var rfl) (rv_eq rfl))) fun _ => et_test (ev_op (ev_len (ev_op (ev_var rfl) ev_c (rv_ixL (sq_of (e1 _ _ hr)) (atI_nat (j := 1) rfl))) (sq_of (e1 _ _ hkp))) (ev_var rfl) rv_I0)
      · have hg : us.getD j .non = x := by
          rw [List.getD_eq_getElem?_getD, hx]
          rfl
        rw [hg]
        exact ev_var rfl
      obtain ⟨fp, rfl, hfn, hfd, rfl⟩ := r
      have hfm : ∀ x ∈ given us.length (fun i => fitB B6 (here : Int) rm (us.getD i .non)) (fun i => us.getD i .non), x ∈ us := fun x hx => by
        obtain ⟨j, hj, rfl⟩ := given_mem hx
        rw [List.getD_eq_getElem?_getD, List.getElem?_eq_getElem hj]
        exact List.getElem_mem hj
      have hgl := given_len us.length (fun i => fitB B6 (here : Int) rm (us.getD i .non)) (fun i => us.getD i .non)
      generalize hgv : given us.length (fun i => fitB B6 (here : Int) rm (us.getD i .non)) (fun i => us.getD i .non) = fs at hfm hgl s7 e7
      have hf7 : (upd B6 fp (.lst fs)) fp = some (.lst fs) := upd_same
      have hw7 := e7 _ _ hw6
      have hq7 := e7 _ _ hq6
      have e7' := e6'.trans e7
      generalize (upd B6 fp (.lst fs)) = B7 at s7 hf7 hw7 hq7 e7'
      have pxq : ∀ (B8 H8 : Hp) (σ' : L2.St), Ex B7 B8 → Sd B8 d H8 → ∀ (c m : Nat), c ∈ tl ("PXQ" : Str) → m < 10 ^ 10 → True := fun _ _ _ _ _ _ _ _ _ => trivial
      have done : ∀ (B8 H8 : Hp) (x : Str) (ds' : List Nat) (σ' : L2.St) (u9 u10 u11 : Option V), Ex (hide H d) B8 → Sd B8 d H8 → B8 wp = some (.lst ((ws ++ [x]).map V.str)) → WordOk x → B8 qp = some (.lst (natV ds')) → (∀ k ∈ ds', k < 3) → ds'.length ≤ 1 + 4 * (i + 1) → σ' = [some (.ref d), some (.ref p), some (.int (kd : Int)), some (.int (n : Int)), some (.ref wp), some (.ref qp), some (.int (i : Int)), some (.int (here : Int)), some (.int rm), u9, u10, u11, u12] →
          ∃ (B2 : Hp) (ws : List Str) (ds : List Nat) (u6 u7 u8 u9 u10 u11 u12 : Option V), Ex (hide H d) B2 ∧ Sd B2 d H8 ∧ B2 wp = some (.lst (ws.map V.str)) ∧ B2 qp = some (.lst (natV ds)) ∧ ws.length = i + 1 ∧ (∀ x ∈ ws, WordOk x) ∧ (∀ k ∈ ds, k < 3) ∧ ds.length ≤ 1 + 4 * (i + 1) ∧ (i + 1 = 0 → ds ≠ []) ∧
      σ' = [some (.ref d), some (.ref p), some (.int (kd : Int)), some (.int (n : Int)), some (.ref wp), some (.ref qp), u6, u7, u8, u9, u10, u11, u12] := fun B8 H8 x ds' σ' u9 u10 u11 e s hw hx hq hd3 hdl es =>
        ⟨B8, ws ++ [x], ds', _, _, _, u9, u10, u11, _, e, s, hw, hq, by rw [List.length_append, hwl]; rfl, fun y hy => (List.mem_append.mp hy).elim (hws y) fun z => by rw [List.mem_singleton.mp z]; exact hx, hd3, hdl, fun z => absurd z (by omega), es⟩
      refine g_if (Rt := fun b _ => b = true → fs ≠ []) (egt_and (Rt := fun b _ => b = true → fs ≠ []) (Ru := fun _ _ => True) ((?_ : EvGT _ _ _ _ _)) (fun B8 e8 _ => egt_test (R := fun v _ => ∃ b, v = .bl b) (eg_opW (Rb := fun v _ => ∃ m : Nat, v = .int (m : Int) ∧ (m : Int) < 9) (eg_takeN (m := 9) (ev_var rfl) ev_c (by decide)) (fun _ _ _ _ => ev_c) fun v _ _ r => ?_) fun v _ _ r => ?_) (fun _ _ _ => fun z => by cases z) (fun b B8 B9 _ h _ _ => fun _ => h rfl)) s7 (fun B8 H8 e8 s8 rt => ?_) (fun B8 H8 e8 s8 _ => ?_)
      · intro Hx sx Qx qx
        refine egt_lift (et_truL (ev_var rfl) (sq_of hf7)) Hx sx Qx fun b B' H' e s' r => qx b B' H' e s' fun hb => ?_
        rw [r.1] at hb
        intro z
        rw [z] at hb
        cases hb
      · obtain ⟨m, rfl, _⟩ := r
        exact ⟨_, rv_I0, _, rfl⟩
      · obtain ⟨b, rfl⟩ := r
        exact ⟨b, rfl, trivial⟩
      · have hfne := rt rfl
        have hf8 := e8 _ _ hf7
        refine gq_asg (eg_itemL (n := (fs.length : Int)) (ev_var rfl) (sq_of hf8) (eg_takeN (m := (fs.length : Int)) (ev_var rfl) (ev_len (ev_var rfl) (sq_of hf8)) (by have := List.length_pos_iff.mpr hfne; omega)) (Int.le_refl _)) s8 fun v B9 H9 e9 s9 mem => ?_
        have e9' := (e7'.trans e8).trans e9
        obtain ⟨r, kp, nm, ks, res, rfl, _, _, hr0, hk0, hnm, hkl, hk3, _⟩ := hus v (hfm v mem)
        have hr := e9' _ _ hr0
        have hkp := e9' _ _ hk0
        have hw9 := e9 _ _ (e8 _ _ hw7)
        have hq9 := e9 _ _ (e8 _ _ hq7)
        refine gq_app hw9 (fun _ => ev_var rfl) (eg_lift (ev_op (ev_var rfl) ev_c (rv_ixL (sq_of hr) (atI_nat (j := 0) rfl)))) (by rw [List.length_map]; omega) s9 fun v B10 H10 e10 r10 s10 => ?_
        obtain ⟨rfl, rfl⟩ := r10
        have hrw : r ≠ wp := fun z => by
          rw [z, nw] at hr0
          cases hr0
        have hkw : kp ≠ wp := fun z => by
          rw [z, nw] at hk0
          cases hk0
        have hkq : kp ≠ qp := fun z => by
          rw [z, nq] at hk0
          cases hk0
        have hr10 : (upd B10 wp (.lst (ws.map V.str ++ [.str nm]))) r = some (.lst [.str nm, .ref kp, .int (res : Int)]) := by
          rw [upd_ne hrw]
          exact hr
        have hk10 : (upd B10 wp (.lst (ws.map V.str ++ [.str nm]))) kp = some (.lst (natV ks)) := by
          rw [upd_ne hkw]
          exact hkp
        have hq10 : (upd B10 wp (.lst (ws.map V.str ++ [.str nm]))) qp = some (.lst (natV ini)) := by
          rw [upd_ne hqw]
          exact hq9
        have hw10 : (upd B10 wp (.lst (ws.map V.str ++ [.str nm]))) wp = some (.lst ((ws ++ [nm]).map V.str)) := by
          rw [List.map_append]
          exact upd_same
        have e10' : Ex (hide H d) (upd B10 wp (.lst (ws.map V.str ++ [.str nm]))) := e9'.mut nw
        generalize (upd B10 wp (.lst (ws.map V.str ++ [.str nm]))) = B11 at s10 hr10 hk10 hq10 hw10 e10'
        refine ev_op (ev_var rfl) ev_c (rv_ixL (sq_of hr10) (atI_nat (j := 1) rfl)) H10 s10.ex _ fun H11 e11 => ⟨kp, natV ks, rfl, .inl ⟨sq_of (e11 _ _ (s10.ex _ _ hk10)), RT.for_Itv (fun j σ' H' => ∃ (B12 : Hp) (ds' : List Nat) (u11 : Option V), Ex (hide H d) B12 ∧ Sd B12 d H' ∧ B12 wp = some (.lst ((ws ++ [nm]).map V.str)) ∧ B12 qp = some (.lst (natV ds')) ∧ B12 kp = some (.lst (natV ks)) ∧ (∀ k ∈ ds', k < 3) ∧ ds'.length = ini.length + j ∧
          σ' = [some (.ref d), some (.ref p), some (.int (kd : Int)), some (.int (n : Int)), some (.ref wp), some (.ref qp), some (.int (i : Int)), some (.int (here : Int)), some (.int rm), some (.ref fp), some (.ref r), u11, u12])
          ⟨B11, ini, _, e10', s10.mono e11, hw10, hq10, hk10, hini, rfl, rfl⟩ (fun j σ' H' z => ?_) (fun j x σ' H' hj hx z => ?_) (fun σ' H' z => ?_)⟩⟩
        · obtain ⟨B12, ds', u11, _, s12, _, _, hk12, _⟩ := z
          exact sq_of (s12.ex _ _ hk12)
        · obtain ⟨B12, ds', u11, e12, s12, hw12, hq12, hk12, hd12, hdl12, rfl⟩ := z
          obtain ⟨a, rfl, ha⟩ : ∃ a : Nat, x = .int (a : Int) ∧ a < 3 := by
            have := List.mem_of_getElem? hx
            obtain ⟨a, ha, rfl⟩ := List.mem_map.mp this
            exact ⟨a, rfl, hk3 a ha⟩
          refine g_app hq12 (fun _ => ev_var rfl) (eg_lift (ev_var rfl)) (by unfold natV; rw [List.length_map]; have : j < ks.length := by { unfold natV at hj; rw [List.length_map] at hj; exact hj }; omega) s12 fun v B13 H13 e13 r13 s13 => ?_
          obtain ⟨rfl, rfl⟩ := r13
          refine ⟨_, ds' ++ [a], _, e12.mut nq, s13, by rw [upd_ne (Ne.symm hqw)]; exact hw12, by unfold natV; rw [List.map_append]; exact upd_same, by rw [upd_ne hkq]; exact hk12, fun k hk => (List.mem_append.mp hk).elim (hd12 k) fun z => by rw [List.mem_singleton.mp z]; exact ha, by rw [List.length_append, hdl12]; rfl, rfl⟩
        · obtain ⟨B12, ds', u11, e12, s12, hw12, hq12, hk12, hd12, hdl12, rfl⟩ := z
          refine done B12 H' nm ds' _ _ _ _ e12 s12 hw12 hnm.word hq12 hd12 ?_ rfl
          have : (natV ks).length = ks.length := List.length_map _
          omega
      · have hw8 := e8 _ _ hw7
        have hq8 := e8 _ _ hq7
        obtain ⟨c, hc, hcat⟩ : ∃ c, c ∈ tl ("PXQ" : Str) ∧ (tl ("PXQ" : Str))[here]? = some c := by
          rcases (show here = 0 ∨ here = 1 ∨ here = 2 by omega) with rfl | rfl | rfl
          · exact ⟨80, by decide, rfl⟩
          · exact ⟨88, by decide, rfl⟩
          · exact ⟨81, by decide, rfl⟩
        refine g_app (R := fun v _ => ∃ x : Str, v = .str x ∧ WordOk x) hw8 (fun _ => ev_var rfl) (eg_opV (Rb := fun v _ => ∃ m : Nat, v = .str (Str.ofString (toString (m : Int))) ∧ m < 10 ^ 10) (ev_op ev_c (ev_var rfl) (rv_ixS (w := "PXQ") (by decide) (atI_nat hcat))) (fun Hx sx Qx qx => ?_) fun v B9 _ r => ?_) (by rw [List.length_map]; omega) s8 fun v B9 H9 e9 r s9 => ?_
        · refine eg_itemN (n := 7) (Pv := fun v => ∃ m : Nat, v = .int (m : Int) ∧ 0 ≤ m ∧ m ≤ 999999999) (EvG.sd (eg_lst (Rs := fun us _ => Nats 7 0 999999999 us) (ega_natV 0 ev_c (by omega) (ega_natV 1 ev_c (by omega) (ega_natV 2 ev_c (by omega) (ega_natV 9 ev_c (by omega) (ega_natV 10 ev_c (by omega) (ega_natV 11 ev_c (by omega) (ega_natV 999999999 ev_c (by omega) ega_nat0))))))) fun us _ z => by rw [z.1]; decide) fun v B8 r => ?_) (fun B8 => eg_takeN (m := 7) (ev_var rfl) ev_c (by decide)) Hx sx _ fun v B9 H9 e9 s9 r => ?_
          · obtain ⟨q, us, B9, rfl, _, _, _, rfl, hu⟩ := r
            exact ⟨q, us, rfl, upd_same, by rw [hu.1]; decide, hu.2⟩
          · obtain ⟨m, rfl, _, hm⟩ := r
            exact rc_strI (H := H9) (by omega) H9 (Ex.refl _) _ fun H10 e10 => qx _ B9 H10 e9 (s9.mono e10) ⟨m, rfl, by omega⟩
        · obtain ⟨m, rfl, hm⟩ := r
          have hz : (Str.ofString (toString (m : Int))).length ≤ 10 := by
            rw [len_tl, tl_num]
            exact numL_len (by decide) hm
          exact ⟨_, rv_addS (by rw [len_one]; omega), _, rfl, pxq_word hc hm⟩
        · obtain ⟨x, rfl, hx⟩ := r
          exact done _ H9 x ini _ _ _ _ (((e7'.trans e8).trans e9).mut nw) s9 (by rw [List.map_append]; exact upd_same) hx (by rw [upd_ne hqw]; exact e9 _ _ hq8) hini (by omega) rfl
    · obtain ⟨B2, ws, ds, u6, u7, u8, u9, u10, u11, u12, e2, s2, hw, hq, hwl, hws, hds, hdl, hd0, rfl⟩ := q
      exact fin _ _ B2 H3 ws rfl e2 s2 hw (fun z => by rw [z] at hwl; simp at hwl; omega) (by omega) hws rfl

end
end K00
-- D20
namespace K00
open PySem PySem.Spec PyProof.Rows L2 Evl KEv TL KDd KSq KD KSame KTxt
/-! _law_names -/
def Short (x : Str) : Prop := 1 ≤ x.length ∧ x.length ≤ 30
def NmOk (nm : List (Str × Str)) : Prop := ∀ p ∈ nm, Short p.2
theorem put_nkv {nm : List (Str × Str)} (h : NmOk nm) (k : Str) {v : Str} (hv : Short v) : ∃ nm', putK (nkv nm) (Sum.inr k) (.str v) = nkv nm' ∧ nm'.length ≤ nm.length + 1 ∧ NmOk nm' := by
  by_cases ha : ((nkv nm).any fun kv => decide (kv.1 = (Sum.inr k : Key))) = true
  · refine ⟨nm.map fun p => if p.1 = k then (p.1, v) else p, ?_, by rw [List.length_map]; omega, fun p hp => ?_⟩
    · unfold putK
      rw [if_pos ha]
      unfold nkv
      rw [List.map_map, List.map_map]
      refine List.map_congr_left fun p _ => ?_
      show (if (Sum.inr p.1 : Key) = Sum.inr k then (Sum.inr p.1, V.str v) else (Sum.inr p.1, V.str p.2)) = _
      by_cases e : p.1 = k
      · rw [if_pos (by rw [e])]
        simp [e]
      · rw [if_neg (fun z => e (Sum.inr.inj z))]
        simp [e]
    · obtain ⟨q, hq, rfl⟩ := List.mem_map.mp hp
      split
      · exact hv
      · exact h q hq
  · refine ⟨nm ++ [(k, v)], ?_, by rw [List.length_append]; exact Nat.le_refl _, fun p hp => ?_⟩
    · unfold putK
      rw [if_neg ha]
      unfold nkv
      rw [List.map_append]
      rfl
    · rcases List.mem_append.mp hp with z | z
      · exact h p z
      · rw [List.mem_singleton.mp z]
        exact hv
theorem given_has {n : Nat} {f : Nat → Bool} {v : Nat → V} {i : Nat} (hi : i < n) (h : f i = true) : v i ∈ given n f v := by
  unfold given
  exact List.mem_map.mpr ⟨i, List.mem_filter.mpr ⟨List.mem_range.mpr hi, h⟩, rfl⟩
theorem Short.head {x : Str} (h : Short x) : ∃ c r, tl x = c :: r := by
  cases e : tl x with
  | nil =>
    have := h.1
    rw [len_tl, e] at this
    exact absurd this (by decide)
  | cons c r => exact ⟨c, r, rfl⟩
def hd0 (x : Str) : Nat := (tl x).headD 0
theorem ev_hd {σ : L2.St} {H : Hp} {te : TE} {x : Str} (h : Ev te σ H (.str x)) (hx : Short x) : Ev (tOp rIxS te (tC (.int 0))) σ H (.str ⟨#[hd0 x]⟩) := by
  obtain ⟨c, r, e⟩ := hx.head
  have e2 : hd0 x = c := by
    unfold hd0
    rw [e]
    rfl
  rw [e2]
  exact ev_op h ev_c (rv_ixS (by have := hx.2; omega) (by rw [show x.cps.toList = c :: r from e]; exact atI_nat (j := 0) rfl))
section
variable {K : PySem.W.Frag} {σ : L2.St} {B H : Hp} {d : Addr} {ta tb td te ty tv : TE} {tz : TS} {D : Ends} {R R' : V → Hp → Prop}
theorem el_catVL {a : Addr} {xs ys : List V} (ha : Ev ta σ H (.ref a)) (hb : EvL tb σ H ys) (h1 : H a = some (.lst xs)) (hl : xs.length + ys.length ≤ 100000) : EvL (tOp rCat ta tb) σ H (xs ++ ys) := fun H1 e Q q =>
  ha H1 e _ fun H2 e2 => hb H2 (e.trans e2) _ fun b H3 h2 e3 hb => ⟨a, b, xs, ys, rfl, rfl, e3 _ _ (e2 _ _ (e _ _ h1)), hb, sz_of hl, fun p hp => q p _ (fresh_back (e2.trans e3) hp) ((e2.trans e3).trans (Ex.new hp)) upd_same⟩
theorem eg_itemN2 {ti : TE} {n : Int} {Pv : V → Prop} (h : EvG te σ B d fun u B' => ∃ p us, u = .ref p ∧ B' p = some (.lst us) ∧ n ≤ (us.length : Int) ∧ ∀ v ∈ us, Pv v) (hi : ∀ B1, Ex B B1 → EvG ti σ B1 d fun v _ => ∃ k : Nat, v = .int (k : Int) ∧ (k : Int) < n) : EvG (tOp (rIxL K) te ti) σ B d fun v _ => Pv v :=
  eg_op (Rb := fun _ v _ => ∃ k : Nat, v = .int (k : Int) ∧ (k : Int) < n) h (fun u B1 e1 _ => hi B1 e1) fun u y B1 B2 _ hu e2 hy => by
    obtain ⟨p, us, rfl, hp, hn, hv⟩ := hu
    obtain ⟨k, rfl, hk⟩ := hy
    have hr : k < us.length := by omega
    have hc : us[k]? = some us[k] := List.getElem?_eq_getElem hr
    exact ⟨_, rv_ixL (sq_of (e2 _ _ hp)) (atI_nat hc), hv _ (List.mem_of_getElem? hc)⟩
theorem eg_cb1 {r : List V → Hp → VK → Prop} (h : EvG te σ B d R) (hr : ∀ v B', R v B' → ∃ z, RC r [v] B' z ∧ R' z B') : EvG (tCB r (tCons te tNil)) σ B d R' := fun H s Q q => h H s _ fun v B' H' e s' rv => by
  obtain ⟨z, hz, rz⟩ := hr v B' rv
  exact hz H' s'.ex Q fun H2 e2 => q z B' H2 e (s'.mono e2) rz
/-- d[k] = v, v drawn -/
theorem g_dput {a : Addr} {kvs : List (Key × V)} {k : Key} (h : EvG tv σ B d R) (hd : ∀ B1, Ev td σ B1 (.ref a)) (hk : ∀ B1, Ev ty σ B1 (kV k)) (hl : B a = some (.dK kvs)) (hz : kvs.length ≤ 100000) (s : Sd B d H) (kk : ∀ v B1 H1, Ex B B1 → R v B1 → Sd (upd B1 a (.dK (putK kvs k v))) d H1 → D.nx σ H1) : sDPut td ty tv D σ H :=
  h H s _ fun v B1 H1 e1 s1 r1 => hd B1 H1 s1.ex _ fun H2 e2 => hk B1 H2 (s1.ex.trans e2) _ fun H3 e3 => ⟨a, _, rfl, DPut.k (e3 _ _ (e2 _ _ (s1.ex _ _ (e1 _ _ hl)))) (Nat.lt_of_le_of_lt hz (by decide)), kk v B1 _ e1 r1 (((s1.mono e2).mono e3).change (e1 _ _ hl))⟩
theorem gq_dput {a : Addr} {kvs : List (Key × V)} {k : Key} (h : EvG tv σ B d R) (hd : ∀ B1, Ev td σ B1 (.ref a)) (hk : ∀ B1, Ev ty σ B1 (kV k)) (hl : B a = some (.dK kvs)) (hz : kvs.length ≤ 100000) (s : Sd B d H) (kk : ∀ v B1 H1, Ex B B1 → R v B1 → Sd (upd B1 a (.dK (putK kvs k v))) d H1 → tz D σ H1) : tSeq (sDPut td ty tv) tz D σ H :=
  g_dput (D := { D with nx := tz D }) h hd hk hl hz s kk
end
abbrev spNames : Sp := spGen (fun rest H => ∃ (p : Addr) (ls : List Str), rest = [.ref p] ∧ H p = some (.lst (ls.map V.str)) ∧ ls.length ≤ 2000 ∧ ∀ x ∈ ls, Short x) (fun _ v B => ∃ q nm, v = .ref q ∧ B q = some (.dK (nkv nm)) ∧ nm.length ≤ 20 ∧ NmOk nm)
theorem scNm : FnScope ["draws", "letters", "names", "k", "letter", "one", "alike", "other"] ["draws", "letters"] (defScope (topS 27)) := ⟨rfl, rfl, rfl, by decide +kernel, rfl, by decide +kernel, by decide +kernel⟩
section
variable {P : Program} {w : World} {K : PySem.W.Frag} {mg : Str → Option Value} {base : Heap}
theorem ok_names {f ft : Addr} {fd fdt : FuncData} (D : DefAt K mg 27 "_law_names" ["draws", "letters"] f fd) (T : GenAt P w K mg base 1 "_law_take" ["draws", "many"] spTake ft fdt) (N : Nm mg) (mr : mg "range" = none) (mst : mg "str" = none) : FnOk P w K mg base CX0 2 f fd ["draws", "letters"] spNames := by
  refine D.F.ok scNm (fun vs H Q E h => ?_) (fun cdv A outer s H vs Q E hr h => ?_)
  · obtain ⟨d, rest, rfl, _, ⟨p, ls, rfl, _⟩, _⟩ := h
    rfl
  · obtain ⟨d, rest, rfl, hd, ⟨p, ls, rfl, hp, hll, hls⟩, k⟩ := h
    have hu := hu_of hr
    refine ⟨_, pss_cons (ps_asg pe_dnewK (pg_name (i := 2) scNm.nd rfl (.inl rfl))) (pss_cons (ps_for PassesOwn.never rfl (pi_range1 (by rfl) mr (pa_cons (pe_call T.F (hr.mono (by decide)) (by rfl) T.g T.kp T.b .nil pass0 (pa_cons (pv 0) (pa_cons pe_int pa_nil))) pa_nil)) (pg_name (i := 3) scNm.nd rfl (.inl rfl)) (pss_cons (ps_asg (pe_ix (r := rIxL K) ix_list (pe_op op_cat (pv 1) (pe_lst (pa_cons pe_str (pa_cons pe_str (pa_cons pe_str (pa_cons pe_str pa_nil)))))) (pe_call T.F (hr.mono (by decide)) (by rfl) T.g T.kp T.b .nil pass0 (pa_cons (pv 0) (pa_cons (pe_op op_add (pe_callB call_len_seq (by rfl) N.len PySem.boot_len (pa_cons (pv 1) pa_nil)) pe_int) pa_nil))) (fun _ _ => rfl)) (pg_name (i := 4) scNm.nd rfl (.inl rfl))) (pss_one (ps_dput hu (pv 2) (pv 4) (pe_op op_addS (pe_ix ix_str (pv 4) pe_int (fun _ _ => rfl)) (pe_callTy call_strI (by rfl) mst (by decide +kernel) (pa_cons (pe_call T.F (hr.mono (by decide)) (by rfl) T.g T.kp T.b .nil pass0 (pa_cons (pv 0) (pa_cons pe_int pa_nil))) pa_nil))) rfl)))) (pss_cut (ps_if (PW.pt (pw_and (pt_tru (pv 1)) (pw_and1 (pt_cmpR op_gt (pe_call T.F (hr.mono (by decide)) (by rfl) T.g T.kp T.b .nil pass0 (pa_cons (pv 0) (pa_cons pe_int pa_nil))) pe_int (nomark _))))) (pss_cons (ps_asg (pe_ix (r := rIxL K) ix_list (pv 1) (pe_call T.F (hr.mono (by decide)) (by rfl) T.g T.kp T.b .nil pass0 (pa_cons (pv 0) (pa_cons (pe_callB call_len_seq (by rfl) N.len PySem.boot_len (pa_cons (pv 1) pa_nil)) pa_nil))) (fun _ _ => rfl)) (pg_name (i := 5) scNm.nd rfl (.inr rfl))) (pss_cons (ps_setLc (i := 6) (own := [("letter", 4)]) (g := gName 4) rfl scNm.nd rfl rfl (sw_true rfl rfl rfl (by decide +kernel)) (pi_list (pv 1)) (blkOk_by (own := [("letter", 4)]) (N := ["draws", "letters", "names", "k", "letter", "one", "alike", "other"]) (sc := defScope (topS 27)) (by decide +kernel)) (fun _ _ _ _ _ => pg_name (i := 4) scNm.nd rfl (.inl rfl)) (fun _ _ _ _ _ => pts_one (pt_cmpR op_eq (pe_ix ix_str (pv 4) pe_int (fun _ _ => rfl)) (pe_ix ix_str (pv 5) pe_int (fun _ _ => rfl)) (nomark _))) (fun _ _ _ _ _ => pv 4)) (pss_cons (ps_asg (pe_ix (r := rIxL K) ix_list (pv 6) (pe_call T.F (hr.mono (by decide)) (by rfl) T.g T.kp T.b .nil pass0 (pa_cons (pv 0) (pa_cons (pe_callB call_len_seq (by rfl) N.len PySem.boot_len (pa_cons (pv 6) pa_nil)) pa_nil))) (fun _ _ => rfl)) (pg_name (i := 7) scNm.nd rfl (.inl rfl))) (pss_cons (ps_dput hu (pv 2) (pv 5) (pv 7) rfl) (pss_one (ps_dput hu (pv 2) (pv 7) (pv 5) rfl)))))) pss_nil) (pss_one (ps_ret (pv 2))))), ?_⟩
    have s0 := Sd.of hd
    refine q_asgD ed_new fun q H1 hq0 e1 h1 => ?_
    have nq : (hide H d) q = none := fresh_back hide_ex hq0
    have s1 : Sd (upd (hide H d) q (.dK [])) d H1 := (s0.mono e1).known (s0.ne hq0) h1
    have hqp : p ≠ q := fun z => by
      rw [z, nq] at hp
      cases hp
    refine gq_range (m := 4) (d := d) (EvG.sd (eg_takeN (m := 5) (ev_var rfl) ev_c (by decide)) fun v _ r => ?_) s1 (by decide) (fun i σ H2 => ∃ (B2 : Hp) (nm : List (Str × Str)) (u3 u4 : Option V), Ex (hide H d) B2 ∧ Sd B2 d H2 ∧ B2 q = some (.dK (nkv nm)) ∧ nm.length ≤ i ∧ NmOk nm ∧ σ = [some (.ref d), some (.ref p), some (.ref q), u3, u4, none, none, none])
      (fun B2 H2 e2 s2 => ⟨B2, [], _, _, (Ex.new nq).trans e2, s2, e2 _ _ upd_same, Nat.le_refl _, fun x hx => absurd hx (by simp), rfl⟩) (fun i σ H2 hi z => ?_) (fun n σ H2 hn z => ?_)
    · obtain ⟨n, rfl, hn⟩ := r
      exact ⟨n, rfl, by omega⟩
    · obtain ⟨B2, nm, u3, u4, e2, s2, h2, hl, hnm, rfl⟩ := z
      have hp2 := e2 _ _ hp
      refine gq_asg (R := fun v _ => ∃ x : Str, v = .str x ∧ Short x) (eg_itemN2 (n := ((ls.map V.str).length : Int) + 4) (Pv := fun v => ∃ x : Str, v = .str x ∧ Short x) (EvG.sd (eg_liftL (el_catVL (ys := (["P1", "X10", "Q9", "R0"] : List Str).map V.str) (ev_var rfl) (el_lst (ea_cons ev_c (ea_cons ev_c (ea_cons ev_c (ea_cons ev_c ea_nil)))) (show 4 ≤ 100000 by decide)) hp2 (by rw [List.length_map]; show _ + 4 ≤ _; omega))) fun v B3 r => ?_) (fun B3 e3 => eg_takeN (ev_var rfl) (ev_op (ev_len (ev_var rfl) (sq_of (e3 _ _ hp2))) ev_c rv_I0) (by omega))) s2 fun v B3 H3 e3 s3 r => ?_
      · obtain ⟨a, rfl, _, _, rfl⟩ := r
        refine ⟨a, _, rfl, upd_same, by rw [List.length_append]; show _ ≤ ((_ + 4 : Nat) : Int); omega, fun v hv => ?_⟩
        rcases List.mem_append.mp hv with z | z
        · obtain ⟨x, hx, rfl⟩ := List.mem_map.mp z
          exact ⟨x, rfl, hls x hx⟩
        · obtain ⟨x, hx, rfl⟩ := List.mem_map.mp z
          have z : ∀ x ∈ (["P1", "X10", "Q9", "R0"] : List Str), 1 ≤ x.length ∧ x.length ≤ 30 := by decide
          exact ⟨x, rfl, z x hx⟩
      · obtain ⟨x, rfl, hx⟩ := r
        have h3 := e3 _ _ h2
        refine g_dput (k := Sum.inr x) (R := fun v _ => ∃ y : Str, v = .str y ∧ Short y) (eg_opV (Rb := fun v _ => ∃ m : Nat, v = .str (Str.ofString (toString (m : Int))) ∧ m < 10 ^ 10) (ev_hd (ev_var rfl) hx) (eg_cb1 (eg_takeN (m := 12) (ev_var rfl) ev_c (by decide)) fun v _ r => ?_) fun v _ _ r => ?_) (fun _ => ev_var rfl) (fun _ => ev_var rfl) h3 (by unfold nkv; rw [List.length_map]; omega) s3 fun v B4 H4 e4 r s4 => ?_
        · obtain ⟨m, rfl, hm⟩ := r
          exact ⟨_, rc_strI (by omega), m, rfl, by omega⟩
        · obtain ⟨m, rfl, hm⟩ := r
          have hz : (Str.ofString (toString (m : Int))).length ≤ 10 := by
            rw [len_tl, tl_num]
            exact numL_len (by decide) hm
          exact ⟨_, rv_addS (by rw [len_one]; omega), _, rfl, by rw [len_app, len_one]; omega, by rw [len_app, len_one]; omega⟩
        · obtain ⟨y, rfl, hy⟩ := r
          obtain ⟨nm', en, hl', hnm'⟩ := put_nkv hnm x hy
          rw [en] at s4
          exact ⟨_, nm', _, _, ((e2.trans e3).trans e4).mut nq, s4, upd_same, by omega, hnm', rfl⟩
    · obtain ⟨B2, nm, u3, u4, e2, s2, h2, hl, hnm, rfl⟩ := z
      have hp2 := e2 _ _ hp
      refine q_cut (M := fun σ H3 => ∃ (B3 : Hp) (nm : List (Str × Str)), Ex (hide H d) B3 ∧ Sd B3 d H3 ∧ B3 q = some (.dK (nkv nm)) ∧ nm.length ≤ 20 ∧ NmOk nm ∧ σ[2]? = some (some (.ref q))) ?_ fun σ H3 z => ?_
      · refine g_if (Rt := fun b _ => b = true → ls ≠ []) (egt_and (Rt := fun b _ => b = true → ls ≠ []) (Ru := fun _ _ => True) ((?_ : EvGT _ _ _ _ _)) (fun B8 e8 _ => egt_test (R := fun v _ => ∃ b, v = .bl b) (eg_opW (Rb := fun v _ => ∃ m : Nat, v = .int (m : Int) ∧ (m : Int) < 4) (eg_takeN (m := 4) (ev_var rfl) ev_c (by decide)) (fun _ _ _ _ => ev_c) fun v _ _ r => ?_) fun v _ _ r => ?_) (fun _ _ _ => fun z => by cases z) (fun b B8 B9 _ h _ _ => fun _ => h rfl)) s2 (fun B3 H3 e3 s3 rt => ?_) (fun B3 H3 e3 s3 _ => ?_)
        · intro Hx sx Qx qx
          refine egt_lift (et_truL (xs := ls.map V.str) (ev_var rfl) (sq_of hp2)) Hx sx Qx fun b B' H' e s' r => qx b B' H' e s' fun hb => ?_
          rw [r.1] at hb
          intro z
          rw [z] at hb
          cases hb
        · obtain ⟨m, rfl, _⟩ := r
          exact ⟨_, rv_I0, _, rfl⟩
        · obtain ⟨b, rfl⟩ := r
          exact ⟨b, rfl, trivial⟩
        · have hne := rt rfl
          have hpos := List.length_pos_iff.mpr hne
          have hp3 := e3 _ _ hp2
          have h3 := e3 _ _ h2
          refine gq_asg (eg_itemL (n := ((ls.map V.str).length : Int)) (ev_var rfl) (sq_of hp3) (eg_takeN (ev_var rfl) (ev_len (ev_var rfl) (sq_of hp3)) (by rw [List.length_map]; omega)) (Int.le_refl _)) s3 fun v B4 H4 e4 s4 mem => ?_
          obtain ⟨one, hone, rfl⟩ := List.mem_map.mp mem
          have hp4 := e4 _ _ hp3
          have h4 := e4 _ _ h3
          refine gq_asg (eg_liftL (xs := given (ls.map V.str).length (fun i => decide (V.str ⟨#[hd0 (ls.getD i Str.empty)]⟩ = V.str ⟨#[hd0 one]⟩)) (fun i => .str (ls.getD i Str.empty))) (el_lcL (K := K) (xs := ls.map V.str) (fun i => decide (V.str ⟨#[hd0 (ls.getD i Str.empty)]⟩ = V.str ⟨#[hd0 one]⟩)) (fun i => .str (ls.getD i Str.empty)) (ev_var rfl) (sq_of hp4) (by rw [List.length_map]; omega) (fun x => rfl) (fun j x H1 e1 hx => ?_) (fun j x H1 e1 hx _ => ?_))) s4 fun v B5 H5 e5 s5 r => ?_
          · obtain ⟨hj, ex, hx2⟩ := at_str hx
            subst ex
            exact et_test (ev_op (ev_hd (ev_var rfl) (hls _ (List.mem_of_getElem? hx2))) (ev_hd (ev_var rfl) (hls _ hone)) (rv_eq rfl))
          · obtain ⟨hj, ex, hx2⟩ := at_str hx
            subst ex
            exact ev_var rfl
          obtain ⟨ap, rfl, han, _, rfl⟩ := r
          have hal : ∀ v ∈ given (ls.map V.str).length (fun i => decide (V.str ⟨#[hd0 (ls.getD i Str.empty)]⟩ = V.str ⟨#[hd0 one]⟩)) (fun i => V.str (ls.getD i Str.empty)), ∃ x : Str, v = .str x ∧ Short x := fun v hv => by
            obtain ⟨j, hj, rfl⟩ := given_mem hv
            rw [List.length_map] at hj
            exact ⟨_, rfl, hls _ (by rw [List.getD_eq_getElem?_getD, List.getElem?_eq_getElem hj]; exact List.getElem_mem hj)⟩
          have hapos : 0 < (given (ls.map V.str).length (fun i => decide (V.str ⟨#[hd0 (ls.getD i Str.empty)]⟩ = V.str ⟨#[hd0 one]⟩)) (fun i => V.str (ls.getD i Str.empty))).length := by
            obtain ⟨j, hj, ej⟩ := List.mem_iff_getElem.mp hone
            have hg : ls.getD j Str.empty = one := by
              rw [List.getD_eq_getElem?_getD, List.getElem?_eq_getElem hj]
              exact ej
            exact List.length_pos_of_mem (given_has (i := j) (by rw [List.length_map]; exact hj) (decide_eq_true (by rw [hg])))
          generalize given (ls.map V.str).length (fun i => decide (V.str ⟨#[hd0 (ls.getD i Str.empty)]⟩ = V.str ⟨#[hd0 one]⟩)) (fun i => V.str (ls.getD i Str.empty)) = as at hal hapos s5 e5
          have ha5 : (upd B4 ap (.lst as)) ap = some (.lst as) := upd_same
          have h5 := e5 _ _ h4
          have e5' := ((e2.trans e3).trans e4).trans e5
          generalize (upd B4 ap (.lst as)) = B5 at s5 ha5 h5 e5'
          refine gq_asg (eg_itemL (n := (as.length : Int)) (ev_var rfl) (sq_of ha5) (eg_takeN (ev_var rfl) (ev_len (ev_var rfl) (sq_of ha5)) (by omega)) (Int.le_refl _)) s5 fun v B6 H6 e6 s6 mem => ?_
          obtain ⟨oth, rfl, hoth⟩ := hal v mem
          have h6 := e6 _ _ h5
          refine gq_dput (k := Sum.inr one) (eg_lift (ev_var rfl)) (fun _ => ev_var rfl) (fun _ => ev_var rfl) h6 (by unfold nkv; rw [List.length_map]; omega) s6 fun v B7 H7 e7 r s7 => ?_
          obtain ⟨rfl, rfl⟩ := r
          obtain ⟨nm1, en1, hl1, hnm1⟩ := put_nkv hnm one hoth
          rw [en1] at s7
          refine g_dput (k := Sum.inr oth) (eg_lift (ev_var rfl)) (fun _ => ev_var rfl) (fun _ => ev_var rfl) (upd_same : (upd B7 q (.dK (nkv nm1))) q = _) (by unfold nkv; rw [List.length_map]; omega) s7 fun v B8 H8 e8 r s8 => ?_
          obtain ⟨rfl, rfl⟩ := r
          obtain ⟨nm2, en2, hl2, hnm2⟩ := put_nkv hnm1 oth (hls one hone)
          rw [en2] at s8
          exact ⟨_, nm2, (((e5'.trans e6).mut nq)).mut nq, s8, upd_same, by omega, hnm2, rfl⟩
        · exact ⟨B3, nm, e2.trans e3, s3, e3 _ _ h2, by omega, hnm, rfl⟩
      · obtain ⟨B3, nm, e3, s3, h3, hl, hnm, hσ⟩ := z
        exact s_ret (ev_var hσ) fun H4 e4 => k _ B3 H4 e3 (s3.mono e4) ⟨q, nm, rfl, h3, hl, hnm⟩

end
end K00
-- D21
namespace K00
open PySem PySem.Spec PyProof.Rows L2 Evl KEv TL KDd KSq KD KSame KTxt
/-! _law_terms_told -/
def Wds (ws : List Str) : Prop := ws ≠ [] ∧ ws.length ≤ 200 ∧ ∀ x ∈ ws, WordOk x
theorem Wds.words {ws : List Str} (h : Wds ws) : Words ws := ⟨h.1, by have := h.2.1; omega, fun x hx => ⟨(h.2.2 x hx).1, (h.2.2 x hx).2.1, (h.2.2 x hx).2.2.1⟩⟩
theorem pe_joinB {X : Cx} {K : PySem.W.Frag} {o e : Expr} {to te : TE} {apos pos : Pos} (ho : PE X o to) (he : PE X e te) (hk : X.K = K) (hs : starEach [e] X.env = [(false, eval e X.env)] := by rfl) (hbase : attributeBase o "join" X.env (eval o X.env) = eval o X.env := by rfl) (hline : (apos.endLine == pos.line) = true := by rfl) :
    PE X (.Call (.Attribute o "join" apos) [e] [] pos) (tM1 (rJoinS K) to te) := by
  subst hk
  exact pe_joinS ho he hs hbase hline
def TermAt (L : Addr) (v : V) (B : Hp) : Prop := ∃ (q : Addr) (ws : List Str), v = .ref q ∧ q ≠ L ∧ B q = some (.lst (ws.map V.str)) ∧ Wds ws
def rDictD : List V → Hp → VK → Prop := fun xs H Q => ∃ (a : Addr) (kvs : List (Key × V)), xs = [.ref a] ∧ Rd H a (.dK kvs) ∧ ∀ p, H p = none → Q (.ref p) (upd H p (.dK kvs))
theorem call_dictDk {X : Cx} : CallR X (.type "dict") rDictD := call_dictD
section
variable {K : PySem.W.Frag} {σ : L2.St} {B H : Hp} {d : Addr} {ta : TA} {te tb : TE} {vs : List Nat} {j : Nat} {E : XK}
theorem ed_dict {a : Addr} {kvs : List (Key × V)} (h : Ev te σ H (.ref a)) (hx : H a = some (.dK kvs)) : EvD (tCB rDictD (tCons te tNil)) σ H kvs := fun H1 e Q q => h H1 e _ fun H2 e2 => ⟨a, kvs, rfl, .inl (e2 _ _ (e _ _ hx)), fun p hp => q p _ (fresh_back e2 hp) (e2.trans (Ex.new hp)) upd_same⟩
theorem eg_liftD {kvs : List (Key × V)} (h : EvD te σ B kvs) : EvG te σ B d fun u B' => ∃ p, u = .ref p ∧ B p = none ∧ p ≠ d ∧ B' = upd B p (.dK kvs) := fun H s Q q => h H s.ex Q fun p H2 hp e2 h2 => by
  have nb : B p = none := fresh_back s.ex hp
  exact q (.ref p) (upd B p (.dK kvs)) H2 (Ex.new nb) ((s.mono e2).known (s.ne hp) h2) ⟨p, rfl, nb, s.ne hp, rfl⟩
theorem eu_call1 {sp : Sp} {v : V} {xs : List V} (h : Ev te σ H v) (hs : ∀ H1, Ex H H1 → ∀ Q : VK, RetU xs H1 Q → ∀ E, sp [v] H1 Q E) : EvU (tCall sp [] E (tCons te tNil)) σ H xs := fun H1 e Q q =>
  h H1 e _ fun H2 e2 => hs H2 (e.trans e2) Q (fun r H3 hr e3 h3 => q r H3 (fresh_back e2 hr) (e2.trans e3) h3) E
theorem eu_callU {sp : Sp} {us xs : List V} (h : EvU te σ H us) (hs : ∀ p H1, Ex H H1 → H1 p = some (.tup us) → ∀ Q : VK, RetU xs H1 Q → ∀ E, sp [.ref p] H1 Q E) : EvU (tCall sp [] E (tCons te tNil)) σ H xs := fun H1 e Q q =>
  h H1 e _ fun p H2 hp e2 h2 => hs p H2 (e.trans e2) h2 Q (fun r H3 hr e3 h3 => q r H3 (fresh_back e2 hr) (e2.trans e3) h3) E
theorem ev_sameUU {xs : List V} (ha : EvU te σ H xs) (hb : EvU tb σ H xs) (hf : ∀ x ∈ xs, flatS x = true) (hz : xs.length ≤ 10000) : Ev (tCall spSame [] E (tCons te (tCons tb tNil))) σ H (.bl true) := fun H1 e Q q =>
  ha H1 e _ fun p H2 hp e2 h2 => hb H2 (e.trans e2) _ fun r H3 hr e3 h3 => ⟨.ref p, .ref r, rfl, .tup p r xs hf hz (e3 _ _ h2) h3, fun H4 e4 => q H4 ((e2.trans e3).trans e4)⟩
theorem ev_sameDD {a b : Addr} {kvs : List (Key × V)} (ha : Ev te σ H (.ref a)) (hb : Ev tb σ H (.ref b)) (h1 : H a = some (.dK kvs)) (h2 : H b = some (.dK kvs)) (hf : ∀ p ∈ kvs, flatS p.2 = true) (hz : kvs.length ≤ 10000) : Ev (tCall spSame [] E (tCons te (tCons tb tNil))) σ H (.bl true) := fun H1 e Q q =>
  ha H1 e _ fun H2 e2 => hb H2 (e.trans e2) _ fun H3 e3 => ⟨.ref a, .ref b, rfl, .dic a b kvs hf hz (e3 _ _ (e2 _ _ (e _ _ h1))) (e3 _ _ (e2 _ _ (e _ _ h2))), fun H4 e4 => q H4 ((e2.trans e3).trans e4)⟩
/-- [e for k in range(n)], e drawn and told of the list so far -/
theorem eg_lcT {n0 : Nat} {Kp : Addr → V → Hp → Prop} (h : EvGA ta σ B d fun us _ => ∃ n : Nat, us = [.int (n : Int)] ∧ n ≤ n0) (hn0 : n0 ≤ 40000) (hw : ∀ x, wipe ((wipe σ vs).set j (some x)) vs = wipe σ vs)
    (hk : ∀ L v B2 B3, Kp L v B2 → Ex B2 B3 → Kp L v B3) (hu : ∀ L v B2 o, Kp L v B2 → Kp L v (upd B2 L o))
    (he : ∀ (i : Nat) (L : Addr) B1 acc, Ex B B1 → B1 L = some (.lst acc) → (∀ x ∈ acc, Kp L x B1) → EvG te ((wipe σ vs).set j (some (.int (i : Int)))) B1 d fun v B2 => Kp L v B2) :
    EvG (tLc (iRng1 ta) (gName j) tYes te vs) σ B d fun u B' => ∃ p xs, u = .ref p ∧ B p = none ∧ B' p = some (.lst xs) ∧ xs.length ≤ n0 ∧ ∀ x ∈ xs, Kp p x B' := fun H s Q q =>
  h H s _ fun us B1 H1 e1 s1 r1 => by
    obtain ⟨n, rfl, hn⟩ := r1
    refine ⟨(n : Int), rfl, by omega, by omega, fun L hL => ?_⟩
    have nb : B1 L = none := fresh_back s1.ex hL
    refine lc_range (lo := 0) (n := ((n : Int) - 0).toNat) (fun i H' => ∃ B2 acc, Ex B1 B2 ∧ Sd B2 d H' ∧ B2 L = some (.lst acc) ∧ acc.length = i ∧ ∀ x ∈ acc, Kp L x B2) ⟨upd B1 L (.lst []), [], Ex.new nb, (s1.mono (Ex.new hL)).known (s1.ne hL) upd_same, upd_same, rfl, fun x hx => absurd hx (by simp)⟩ (fun i H2 hi p => ?_) (fun H2 p => ?_)
    · obtain ⟨B2, acc, e2, s2, h2, hl, hx⟩ := p
      have e0 : (0 : Int) + (i : Int) = (i : Int) := Int.zero_add _
      rw [e0]
      refine ⟨hw _, ?_⟩
      show (fun b H3 => _) true H2
      simp only [if_true]
      refine he i L B2 acc (e1.trans e2) h2 hx H2 s2 _ fun v B3 H3 e3 s3 r3 => ?_
      have h3 : B3 L = some (.lst acc) := e3 _ _ h2
      refine ⟨acc, s3.ex _ _ h3, sz_lt (by omega), upd B3 L (.lst (acc ++ [v])), acc ++ [v], (e2.trans e3).mut nb, s3.change h3, upd_same, by rw [List.length_append, hl]; rfl, fun x hx2 => ?_⟩
      rcases List.mem_append.mp hx2 with z | z
      · exact hu L x B3 _ (hk L x B2 B3 (hx x z) e3)
      · rw [List.mem_singleton.mp z]
        exact hu L v B3 _ r3
    · obtain ⟨B2, acc, e2, s2, h2, hl, hx⟩ := p
      exact q (.ref L) B2 H2 (e1.trans e2) s2 ⟨L, acc, rfl, fresh_back e1 nb, h2, by omega, hx⟩
end
abbrev spTT : Sp := spGen (fun rest _ => ∃ g : Bool, rest = [.bl g]) (fun _ v _ => v = .bl true)
theorem scTT : FnScope ["draws", "great", "signs", "most", "rows", "letters", "words", "word", "texts", "given", "names", "kept", "due", "k"] ["draws", "great"] (defScope (topS 28)) := ⟨rfl, rfl, rfl, by decide +kernel, rfl, by decide +kernel, by decide +kernel⟩
section
variable {P : Program} {w : World} {K : PySem.W.Frag} {mg : Str → Option Value} {base : Heap}
theorem ok_tt {f ft fsg ftm fna ffl frn fsm : Addr} {fd fdt fdsg fdtm fdna fdfl fdrn fdsm : FuncData} (D : DefAt K mg 28 "_law_terms_told" ["draws", "great"] f fd) (T : GenAt P w K mg base 1 "_law_take" ["draws", "many"] spTake ft fdt) (SG : GenAt P w K mg base 3 "_law_signs" ["draws"] spSigns fsg fdsg) (TM : GenAt P w K mg base 2 "_law_term" ["draws", "signs", "kind", "budget"] spTerm ftm fdtm)
    (NA : GenAt P w K mg base 2 "_law_names" ["draws", "letters"] spNames fna fdna) (FL : GenAt P w K mg base 1 "first_letters" ["texts"] (spFirst K) ffl fdfl) (RN : GenAt P w K mg base 1 "renamed" ["text", "names"] spRenamed frn fdrn) (SM : GenAt P w K mg base 2 "_law_same" ["told", "due"] spSame fsm fdsm) (M : NmS mg) : FnOk P w K mg base CX0 4 f fd ["draws", "great"] spTT := by
  refine D.F.ok scTT (fun vs H Q E h => ?_) (fun cdv A outer s H vs Q E hr h => ?_)
  · obtain ⟨d, rest, rfl, _, ⟨g, rfl⟩, _⟩ := h
    rfl
  · obtain ⟨d, rest, rfl, hd, ⟨g, rfl⟩, k⟩ := h
    have hu := hu_of hr
    refine ⟨_, (pss_cons (ps_asg (pe_call SG.F (hr.mono (by decide)) (by rfl) SG.g SG.kp SG.b .nil pass0 (pa_cons (pv 0) pa_nil)) (pg_name (i := 2) scTT.nd rfl (.inr rfl))) (pss_cons (ps_asg (pe_ifExp (pt_val (pv 1)) pe_int pe_int) (pg_name (i := 3) scTT.nd rfl (.inr rfl))) (pss_cons (ps_setLc (i := 4) (own := [("k", 13)]) (g := gName 13) (tt := tYes) rfl scTT.nd rfl rfl (sw_true rfl rfl rfl (by decide +kernel)) (pi_range1 (by rfl) M.range (pa_cons (pe_call T.F (hr.mono (by decide)) (by rfl) T.g T.kp T.b .nil pass0 (pa_cons (pv 0) (pa_cons pe_int pa_nil))) pa_nil)) (blkOk_by (own := [("k", 13)]) (N := ["draws", "great", "signs", "most", "rows", "letters", "words", "word", "texts", "given", "names", "kept", "due", "k"]) (sc := defScope (topS 28)) (by decide +kernel)) (fun _ _ _ _ _ => pg_name (i := 13) scTT.nd rfl (.inl rfl)) (fun _ _ _ _ _ => pts_nil) (fun _ _ _ _ _ => (pe_call TM.F (hr.mono (by decide)) (by rfl) TM.g TM.kp TM.b .nil pass0 (pa_cons (pv 0) (pa_cons (pv 2) (pa_cons (pe_call T.F (hr.mono (by decide)) (by rfl) T.g T.kp T.b .nil pass0 (pa_cons (pv 0) (pa_cons pe_int pa_nil))) (pa_cons (pe_op op_add pe_int (pe_call T.F (hr.mono (by decide)) (by rfl) T.g T.kp T.b .nil pass0 (pa_cons (pv 0) (pa_cons (pv 3) pa_nil)))) pa_nil))))))) (pss_cons (ps_asg (pe_lst pa_nil) (pg_name (i := 5) scTT.nd rfl (.inl rfl))) (pss_cons (ps_for PassesOwn.never rfl (pi_list (pv 4)) (pg_name (i := 6) scTT.nd rfl (.inl rfl)) (pss_one (ps_for PassesOwn.never rfl (pi_list (pv 6)) (pg_name (i := 7) scTT.nd rfl (.inl rfl)) (pss_one (ps_if (PW.pt (pw_and (pt_cmpR op_isS (pe_ix ix_str (pv 7) pe_int (fun _ _ => rfl)) pe_str rfl) (pw_and1 (pt_cmpR op_notIn_seq (pv 7) (pv 5) rfl)))) (pss_one (ps_expr (pe_bm PySem.F.plainAttrs_list PySem.F.slot_list_append PySem.F.type_list_append mt_append (pv 5) (pa_cons (pv 7) pa_nil)))) pss_nil))))) (pss_cons (ps_setLc (i := 8) (own := [("words", 6)]) (g := gName 6) (tt := tYes) rfl scTT.nd rfl rfl (sw_true rfl rfl rfl (by decide +kernel)) (pi_list (pv 4)) (blkOk_by (own := [("words", 6)]) (N := ["draws", "great", "signs", "most", "rows", "letters", "words", "word", "texts", "given", "names", "kept", "due", "k"]) (sc := defScope (topS 28)) (by decide +kernel)) (fun _ _ _ _ _ => pg_name (i := 6) scTT.nd rfl (.inl rfl)) (fun _ _ _ _ _ => pts_nil) (fun _ _ _ _ _ => pe_joinB (K := K) pe_str (pv 6) rfl)) (pss_cons (ps_asg (pe_callTy call_list_sq (by rfl) M.list (by decide +kernel) (pa_cons (pv 8) pa_nil)) (pg_name (i := 9) scTT.nd rfl (.inl rfl))) (pss_cons (ps_if (PW.pt (pw_or (pt_not (pt_val (pe_call SM.F (hr.mono (by decide)) (by rfl) SM.g SM.kp SM.b .nil pass0 (pa_cons (pe_call FL.F (hr.mono (by decide)) (by rfl) FL.g FL.kp FL.b .nil pass0 (pa_cons (pv 9) pa_nil)) (pa_cons (pe_callTy call_tuple_sq (by rfl) M.tuple (by decide +kernel) (pa_cons (pv 5) pa_nil)) pa_nil))))) (pw_or1 (pt_not (pt_val (pe_call SM.F (hr.mono (by decide)) (by rfl) SM.g SM.kp SM.b .nil pass0 (pa_cons (pe_call FL.F (hr.mono (by decide)) (by rfl) FL.g FL.kp FL.b .nil pass0 (pa_cons (pe_callTy call_tuple_sq (by rfl) M.tuple (by decide +kernel) (pa_cons (pv 8) pa_nil)) pa_nil)) (pa_cons (pe_callTy call_tuple_sq (by rfl) M.tuple (by decide +kernel) (pa_cons (pv 5) pa_nil)) pa_nil)))))))) pss_never pss_nil) (pss_cons (ps_asg (pe_call NA.F (hr.mono (by decide)) (by rfl) NA.g NA.kp NA.b .nil pass0 (pa_cons (pv 0) (pa_cons (pv 5) pa_nil))) (pg_name (i := 10) scTT.nd rfl (.inl rfl))) (pss_cons (ps_asg (pe_callTy call_dictDk (by rfl) M.dict (by decide +kernel) (pa_cons (pv 10) pa_nil)) (pg_name (i := 11) scTT.nd rfl (.inr rfl))) (pss_cons (ps_for PassesOwn.never rfl (pi_list (pv 4)) (pg_name (i := 6) scTT.nd rfl (.inl rfl)) (pss_cons (ps_asg (pe_joinS pe_str (pe_lc (own := [("word", 7)]) (g := gName 7) (tt := tYes) rfl scTT.nd (pi_list (pv 6)) (blkOk_by (own := [("word", 7)]) (N := ["draws", "great", "signs", "most", "rows", "letters", "words", "word", "texts", "given", "names", "kept", "due", "k"]) (sc := defScope (topS 28)) (by decide +kernel)) (fun _ _ _ _ _ => pg_name (i := 7) scTT.nd rfl (.inl rfl)) (fun _ _ _ _ _ => pts_nil) (fun _ _ _ _ _ => pe_dget2 hu (pv 11) (pv 7) (pv 7) ⟨rfl, rfl, rfl, rfl⟩))) (pg_name (i := 12) scTT.nd rfl (.inl rfl))) (pss_one (ps_if (PW.pt (pw_or (pt_not (pt_val (pe_call SM.F (hr.mono (by decide)) (by rfl) SM.g SM.kp SM.b .nil pass0 (pa_cons (pe_call RN.F (hr.mono (by decide)) (by rfl) RN.g RN.kp RN.b .nil pass0 (pa_cons (pe_joinS pe_str (pv 6)) (pa_cons (pv 10) pa_nil))) (pa_cons (pv 12) pa_nil))))) (pw_or1 (pt_not (pt_val (pe_call SM.F (hr.mono (by decide)) (by rfl) SM.g SM.kp SM.b .nil pass0 (pa_cons (pv 10) (pa_cons (pv 11) pa_nil)))))))) pss_never pss_nil)))) (pss_one (ps_ret (pe_and (pe_call SM.F (hr.mono (by decide)) (by rfl) SM.g SM.kp SM.b .nil pass0 (pa_cons (pv 9) (pa_cons (pv 8) pa_nil))) (pe_one (pe_call SM.F (hr.mono (by decide)) (by rfl) SM.g SM.kp SM.b .nil pass0 (pa_cons (pe_call FL.F (hr.mono (by decide)) (by rfl) FL.g FL.kp FL.b .nil pass0 (pa_cons (pv 8) pa_nil)) (pa_cons (pe_callTy call_tuple_sq (by rfl) M.tuple (by decide +kernel) (pa_cons (pv 5) pa_nil)) pa_nil)))))))))))))))))), ?_⟩
    have s0 := Sd.of hd
    refine gq_asg (B := hide H d) (d := d) (eg_call0 (R := fun v B => ∃ p, v = .ref p ∧ SignsAt B p) (ev_var rfl) (fun _ _ => rfl) fun u B2 _ r => r) s0 fun v B1 H1 e1 s1 r => ?_
    obtain ⟨sp, rfl, hsg⟩ := r
    refine gq_asg (R := fun v _ => ∃ m : Nat, v = .int (m : Int) ∧ 1 ≤ m ∧ m ≤ 200) (EvG.sd (eg_ev (v := .int (if g then 200 else 40)) (ev_if (b := g) (et_B (ev_var rfl)) (fun z => by rw [z]; exact ev_c) (fun z => by rw [z]; exact ev_c))) fun v _ r => ?_) s1 fun v B2 H2 e2 s2 r => ?_
    · rw [r]
      cases g
      · exact ⟨40, rfl, by omega, by omega⟩
      · exact ⟨200, rfl, by omega, by omega⟩
    obtain ⟨most, rfl, hm1, hm2⟩ := r
    have hsg2 := hsg.mono e2
    have e2' := e1.trans e2
    refine gq_asg (eg_lcT (n0 := 5) (Kp := fun L v B => TermAt L v B) (ega_sd (ega_one (eg_takeN (m := 6) (ev_var rfl) ev_c (by decide))) fun us _ _ r => ?_) (by decide) (fun x => rfl) (fun L v B2 B3 h e => ?_) (fun L v B2 o h => ?_) (fun i L B4 acc e4 hL hacc => ?_)) s2 fun v B3 H3 e3 s3 r => ?_
    · obtain ⟨v, rfl, n, rfl, hn⟩ := r
      exact ⟨n, rfl, by omega⟩
    · obtain ⟨q, ws, h1, h2, h3, h4⟩ := h
      exact ⟨q, ws, h1, h2, e _ _ h3, h4⟩
    · obtain ⟨q, ws, h1, h2, h3, h4⟩ := h
      exact ⟨q, ws, h1, h2, by rw [upd_ne h2]; exact h3, h4⟩
    · refine eg_call (Rs := fun us _ => ∃ (kd n : Nat), us = [.ref d, .ref sp, .int (kd : Int), .int (n : Int)] ∧ kd < 3 ∧ 1 ≤ n ∧ n ≤ 200) (ega_sd (ega_consV (ev_var rfl) (ega_consV (ev_var rfl) (ega_cons (Rr := fun v us _ => ∃ m : Nat, us = [.int (m : Int)] ∧ 1 ≤ m ∧ m ≤ 200) (Rw := fun us _ => ∃ (kd n : Nat), us = [.int (kd : Int), .int (n : Int)] ∧ kd < 3 ∧ 1 ≤ n ∧ n ≤ 200) (eg_takeN (m := 3) (ev_var rfl) ev_c (by decide)) (fun v B5 _ _ => ega_sd (ega_one (eg_opV (Rb := fun v _ => ∃ n : Nat, v = .int (n : Int) ∧ (n : Int) < (most : Int)) (R := fun v _ => ∃ m : Nat, v = .int (m : Int) ∧ 1 ≤ m ∧ m ≤ 200) ev_c (eg_takeN (m := (most : Int)) (ev_var rfl) (ev_var rfl) (by omega)) fun y _ _ hy => ?_)) fun us _ _ z => ?_) fun v us _ _ _ hv _ hu => ?_))) fun us _ _ z => ?_) (fun us B5 H5 e5 z e6 => ?_) (fun rest B5 B6 v e5 z e6 c => ?_)
      · obtain ⟨n, rfl, hn⟩ := hy
        exact ⟨_, rv_I0, n + 1, by congr 1; omega, by omega, by omega⟩
      · obtain ⟨v, rfl, m, rfl, h1, h2⟩ := z
        exact ⟨m, rfl, h1, h2⟩
      · obtain ⟨kd, rfl, hkd⟩ := hv
        obtain ⟨m, rfl, h1, h2⟩ := hu
        exact ⟨kd, m, rfl, by omega, h1, h2⟩
      · obtain ⟨r1, rfl, r2, rfl, kd, n, rfl, h1, h2, h3⟩ := z
        exact ⟨kd, n, rfl, h1, h2, h3⟩
      · obtain ⟨kd, n, rfl, h1, h2, h3⟩ := z
        exact ⟨_, rfl, sp, kd, n, rfl, hsg2.mono ((e4.trans e5).trans e6), h1, h2, h3⟩
      · obtain ⟨q, ws, rfl, hq, hne, hl, hw⟩ := c
        refine ⟨q, ws, rfl, fun z => ?_, hq, hne, hl, hw⟩
        have hL6 := e6 _ _ (e5 _ _ hL)
        rw [z, hL6] at hq
        have hq' : acc = ws.map V.str := by
          have := Option.some.inj hq
          exact HO.lst.inj this
        cases hws : ws with
        | nil => exact hne hws
        | cons y r =>
          rw [hws] at hq'
          obtain ⟨_, _, ev, _⟩ := hacc (.str y) (by rw [hq']; exact List.mem_cons_self)
          cases ev
    obtain ⟨rp, us, rfl, hrn, hrp, hul, hus⟩ := r
    -- the rows as data
    obtain ⟨ps, rfl, hps⟩ : ∃ ps : List (Addr × List Str), us = ps.map (fun p => V.ref p.1) ∧ ∀ p ∈ ps, B3 p.1 = some (.lst (p.2.map V.str)) ∧ Wds p.2 := by
      clear hrp hul
      induction us with
      | nil => exact ⟨[], rfl, fun y hy => absurd hy (by simp)⟩
      | cons v r ih =>
        obtain ⟨ps, h1, h2⟩ := ih fun x hx => hus x (List.mem_cons_of_mem _ hx)
        obtain ⟨q, ws, rfl, _, h3, h4⟩ := hus _ List.mem_cons_self
        refine ⟨(q, ws) :: ps, by rw [h1]; rfl, fun y hy => ?_⟩
        rcases List.mem_cons.mp hy with rfl | hy
        · exact ⟨h3, h4⟩
        · exact h2 y hy
    rw [List.length_map] at hul
    have e3' := e2'.trans e3
    have at_ps : ∀ {i : Nat} {x : V}, (ps.map fun p => V.ref p.1)[i]? = some x → ∃ p, ps[i]? = some p ∧ x = .ref p.1 := fun {i x} h => by
      rw [List.getElem?_map] at h
      cases e : ps[i]? with
      | none =>
        rw [e] at h
        cases h
      | some p =>
        rw [e] at h
        exact ⟨p, rfl, (Option.some.inj h).symm⟩
    have hflat : ∀ n, (fl ((ps.map (·.2)).take n).flatten).length ≤ 2000 := fun n => by
      have z1 := fl_len ((ps.map (·.2)).take n).flatten
      have z2 := flat_len (rows := (ps.map (·.2)).take n) fun ws hw => by
        obtain ⟨p, hp, rfl⟩ := List.mem_map.mp (List.mem_of_mem_take hw)
        have := (hps p hp).2.2.1
        omega
      have z3 : ((ps.map (·.2)).take n).length ≤ 5 := by rw [List.length_take, List.length_map]; omega
      have z4 := Nat.mul_le_mul_right 400 z3
      omega
    refine gq_asg (eg_liftL (el_lst ea_nil (by decide))) s3 fun v B4 H4 e4 s4 r => ?_
    obtain ⟨lp, rfl, hln, _, rfl⟩ := r
    refine q_forLB (B := B3) (e4.trans s4.ex) (ev_var rfl) (sq_of hrp) (fun i σ H5 => ∃ (B5 : Hp) (u6 u7 : Option V), Ex B3 B5 ∧ Sd B5 d H5 ∧ B5 lp = some (.lst ((fl ((ps.map (·.2)).take i).flatten).map V.str)) ∧ σ = [some (.ref d), some (.bl g), some (.ref sp), some (.int (most : Int)), some (.ref rp), some (.ref lp), u6, u7, none, none, none, none, none, none]) (fun H5 e5 => ⟨_, _, _, e4, s4.mono e5, upd_same, rfl⟩) (fun i σ H5 q => ?_) (fun i x σ H5 hx q => ?_) (fun σ H5 q => ?_)
    · obtain ⟨B5, u6, u7, e5, s5, _⟩ := q
      exact e5.trans s5.ex
    · obtain ⟨B5, u6, u7, e5, s5, h5, rfl⟩ := q
      obtain ⟨p, hp, rfl⟩ := at_ps hx
      have hpm := hps p (List.mem_of_getElem? hp)
      have hp5 := e5 _ _ hpm.1
      have hpi : (ps.map (·.2))[i]? = some p.2 := by rw [List.getElem?_map, hp]; rfl
      refine s_forLB (B := B3) (e5.trans s5.ex) (ev_var rfl) (sq_of hpm.1) (fun j σ H6 => ∃ (B6 : Hp) (u7 : Option V), Ex B3 B6 ∧ Sd B6 d H6 ∧ B6 lp = some (.lst ((fl (((ps.map (·.2)).take i).flatten ++ p.2.take j)).map V.str)) ∧ σ = [some (.ref d), some (.bl g), some (.ref sp), some (.int (most : Int)), some (.ref rp), some (.ref lp), some (.ref p.1), u7, none, none, none, none, none, none]) (fun H6 e6 => ⟨B5, _, e5, s5.mono e6, by rw [List.take_zero, List.append_nil]; exact h5, rfl⟩) (fun j σ H6 q => ?_) (fun j x σ H6 hx q => ?_) (fun σ H6 q => ?_)
      · obtain ⟨B6, u7, e6, s6, _⟩ := q
        exact e6.trans s6.ex
      · obtain ⟨B6, u7, e6, s6, h6, rfl⟩ := q
        obtain ⟨hj, ex, hx2⟩ := at_str hx
        subst ex
        have hw := hpm.2.2.2 _ (List.mem_of_getElem? hx2)
        generalize p.2.getD j Str.empty = y at hx2 hw
        have hsn : fl (((ps.map (·.2)).take i).flatten ++ p.2.take (j + 1)) = if capHead y then addS (fl (((ps.map (·.2)).take i).flatten ++ p.2.take j)) y else fl (((ps.map (·.2)).take i).flatten ++ p.2.take j) := by
          rw [List.take_add_one, hx2, ← List.append_assoc]
          exact fl_snoc _ _
        obtain ⟨c, r, hc⟩ : ∃ c r, tl y = c :: r := Short.head ⟨hw.1, hw.2.1⟩
        have hcap : capHead y = decide (c ∈ tl ("PXQ" : Str)) := by
          rw [hw.2.2.2, hc]
          rfl
        have hlen : (fl (((ps.map (·.2)).take i).flatten ++ p.2.take j)).length ≤ 4000 := by
          have z1 := fl_len (((ps.map (·.2)).take i).flatten ++ p.2.take j)
          have z2 := flat_len (rows := (ps.map (·.2)).take i) fun ws hw => by
            obtain ⟨p, hp, rfl⟩ := List.mem_map.mp (List.mem_of_mem_take hw)
            have := (hps p hp).2.2.1
            omega
          have z3 : ((ps.map (·.2)).take i).length ≤ 5 := by rw [List.length_take, List.length_map]; omega
          have z4 := Nat.mul_le_mul_right 400 z3
          have z5 := hpm.2.2.1
          rw [List.length_append, List.length_take] at z1
          omega
        refine s_when (b := capHead y && !decide (y ∈ fl (((ps.map (·.2)).take i).flatten ++ p.2.take j))) (et_is (et_and (et_test (ev_op (ev_op (ev_var rfl) ev_c (rv_ixS (by have := hw.2.1; omega) (c := c) (by rw [show y.cps.toList = c :: r from hc]; exact atI_nat (j := 0) rfl))) ev_c rv_isS)) fun _ => et_test (ev_op (ev_var rfl) (ev_var rfl) (rv_niL (sq_of (s6.ex _ _ h6)) rfl (flat_txt _)))) (by rw [inV_txt, hcap])) (fun hb H7 e7 => ?_) (fun hb H7 e7 => ?_)
        · have hb2 := Bool.and_eq_true_iff.mp hb
          have hy : y ∉ fl (((ps.map (·.2)).take i).flatten ++ p.2.take j) := by simpa using hb2.2
          refine g_app h6 (fun _ => ev_var rfl) (eg_lift (ev_var rfl)) (by rw [List.length_map]; omega) (s6.mono e7) fun v B8 H8 e8 r s8 => ?_
          obtain ⟨rfl, rfl⟩ := r
          refine ⟨_, _, e6.mut hln, s8, ?_, rfl⟩
          rw [hsn, if_pos hb2.1]
          unfold addS
          rw [if_neg hy, List.map_append]
          exact upd_same
        · refine ⟨B6, _, e6, s6.mono e7, ?_, rfl⟩
          rw [hsn, h6]
          by_cases hcy : capHead y = true
          · rw [if_pos hcy]
            rw [hcy] at hb
            have hy : y ∈ fl (((ps.map (·.2)).take i).flatten ++ p.2.take j) := by simpa using hb
            unfold addS
            rw [if_pos hy]
          · rw [if_neg hcy]
      · obtain ⟨B6, u7, e6, s6, h6, rfl⟩ := q
        rw [List.length_map, List.take_length, ← take_flat hpi] at h6
        exact ⟨B6, _, _, e6, s6, h6, rfl⟩
    obtain ⟨B5, u6, u7, e5, s5, h5, rfl⟩ := q
    rw [List.length_map] at h5
    have htk : ((ps.map (·.2)).take ps.length) = ps.map (·.2) := List.take_of_length_le (by rw [List.length_map]; exact Nat.le_refl _)
    rw [htk] at h5
    have hll : (fl (ps.map (·.2)).flatten).length ≤ 2000 := by
      have := hflat ps.length
      rw [htk] at this
      exact this
    have hps5 : ∀ p ∈ ps, B5 p.1 = some (.lst (p.2.map V.str)) := fun p hp => e5 _ _ (hps p hp).1
    have hrp5 := e5 _ _ hrp
    have e5' := e3'.trans e5
    have hWd : ∀ ws ∈ ps.map (·.2), Words ws := fun ws hw => by
      obtain ⟨p, hp, rfl⟩ := List.mem_map.mp hw
      exact (hps p hp).2.words
    have hpl : (ps.map (·.2)).length ≤ 100 := by rw [List.length_map]; omega
    -- the texts
    refine gq_asg (eg_liftL (xs := ((ps.map (·.2)).map txt).map V.str) (el_is (el_lcL (K := K) (xs := ps.map fun p => V.ref p.1) (fun _ => true) (fun i => .str (txt ((ps.map (·.2)).getD i []))) (ev_var rfl) (sq_of hrp5) (by rw [List.length_map]; omega) (fun x => rfl) (fun _ _ _ _ _ => yes_T) (fun i x H1 e1 hx _ => ?_)) ?_)) s5 fun v B6 H6 e6 s6 r => ?_
    · obtain ⟨p, hp, rfl⟩ := at_ps hx
      have hpm := hps p (List.mem_of_getElem? hp)
      have hg : (ps.map (·.2)).getD i [] = p.2 := by
        rw [List.getD_eq_getElem?_getD, List.getElem?_map, hp]
        rfl
      rw [hg]
      refine ev_join (K := K) ev_c (ev_var rfl) (sq_of (e1 _ _ (hps5 p (List.mem_of_getElem? hp)))) ?_
      have z1 := sum_le (ws := p.2) (m := 30) fun x hx => (hpm.2.2.2 x hx).2.1
      have z2 := hpm.2.2.1
      have z3 : (" " : Str).length = 1 := rfl
      rw [z3]
      omega
    · rw [given_all fun _ _ => rfl, List.length_map, ← List.length_map (f := fun p : Addr × List Str => p.2) (as := ps), range_map (g := fun ws => V.str (txt ws))]
      simp only [List.map_map]
      rfl
    obtain ⟨tp, rfl, htn, _, rfl⟩ := r
    have hl6 := e6 _ _ h5
    have ht6 : (upd B5 tp (.lst (((ps.map (·.2)).map txt).map V.str))) tp = some (.lst (((ps.map (·.2)).map txt).map V.str)) := upd_same
    have e6' := e5'.trans e6
    have hps6 : ∀ p ∈ ps, (upd B5 tp (.lst (((ps.map (·.2)).map txt).map V.str))) p.1 = some (.lst (p.2.map V.str)) := fun p hp => e6 _ _ (hps5 p hp)
    have hrp6 := e6 _ _ hrp5
    generalize (upd B5 tp (.lst (((ps.map (·.2)).map txt).map V.str))) = B6 at s6 hl6 ht6 e6' hps6 hrp6
    refine gq_asg (eg_liftL (el_list (ev_var rfl) (sq_of ht6))) s6 fun v B7 H7 e7 s7 r => ?_
    obtain ⟨gp, rfl, hgn, _, rfl⟩ := r
    have hg7 : (upd B6 gp (.lst (((ps.map (·.2)).map txt).map V.str))) gp = some (.lst (((ps.map (·.2)).map txt).map V.str)) := upd_same
    have hl7 := e7 _ _ hl6
    have ht7 := e7 _ _ ht6
    have e7' := e6'.trans e7
    have hps7 : ∀ p ∈ ps, (upd B6 gp (.lst (((ps.map (·.2)).map txt).map V.str))) p.1 = some (.lst (p.2.map V.str)) := fun p hp => e7 _ _ (hps6 p hp)
    have hrp7 := e7 _ _ hrp6
    generalize (upd B6 gp (.lst (((ps.map (·.2)).map txt).map V.str))) = B7 at s7 hg7 hl7 ht7 e7' hps7 hrp7
    have fS : ∀ (l : List Str), ∀ x ∈ l.map V.str, flatS x = true := fun l x hx => by
      obtain ⟨y, _, rfl⟩ := List.mem_map.mp hx
      rfl
    have hfl : ((fl (ps.map (·.2)).flatten).map V.str).length ≤ 10000 := by rw [List.length_map]; omega
    have first : ∀ (B8 H8 : Hp) (i : Nat) (a : Addr) (σ : L2.St) (E : XK), Ex B8 H8 → B8 a = some (.lst (((ps.map (·.2)).map txt).map V.str)) → σ[i]? = some (some (.ref a)) → EvU (tCall (spFirst K) [] E (tCons (tVar i) tNil)) σ H8 ((fl (ps.map (·.2)).flatten).map V.str) := fun B8 H8 i a σ E e h hσ =>
      eu_call1 (ev_var hσ) fun H1 e1 Q r E => ⟨a, ps.map (·.2), rfl, .inl (sq_of (e1 _ _ (e _ _ h))), hpl, hWd, r⟩
    refine q_when (b := false) (et_is (et_or (et_not (et_B (ev_sameUU (first B7 H7 9 gp _ _ s7.ex hg7 rfl) (eu_tupL (ev_var rfl) (sq_of (s7.ex _ _ hl7))) (fS _) hfl))) fun _ => et_not (et_B (ev_sameUU (eu_callU (eu_tupL (ev_var rfl) (sq_of (s7.ex _ _ ht7))) fun t H1 e1 h Q r E => ⟨t, ps.map (·.2), rfl, .inr (st_of h), hpl, hWd, r⟩) (eu_tupL (ev_var rfl) (sq_of (s7.ex _ _ hl7))) (fS _) hfl))) rfl) (fun z => by cases z) (fun _ H8 e8 => ?_)
    have hsl : ∀ x ∈ fl (ps.map (·.2)).flatten, Short x := fun x hx => by
      unfold fl at hx
      have h1 := dd_mem.mp hx
      have h2 := (List.mem_filter.mp h1).1
      obtain ⟨ws, hws, hx2⟩ := List.mem_flatten.mp h2
      have z := (hWd ws hws).2.2 x hx2
      exact ⟨z.1, z.2.1⟩
    refine gq_asg (eg_call1 (R := fun v B => ∃ q nm, v = .ref q ∧ B q = some (.dK (nkv nm)) ∧ nm.length ≤ 20 ∧ NmOk nm) (ev_var rfl) (eg_lift (ev_var rfl)) (fun v B9 H9 e9 r e10 => ?_) fun v u B9 B10 _ _ _ c => c) (s7.mono e8) fun v B9 H9 e9 s9 r => ?_
    · obtain ⟨rfl, rfl⟩ := r
      exact ⟨lp, fl (ps.map (·.2)).flatten, rfl, e10 _ _ hl7, by omega, hsl⟩
    obtain ⟨np, nm, rfl, hnp, hnl, hnm⟩ := r
    refine gq_asg (eg_liftD (ed_dict (ev_var rfl) hnp)) s9 fun v B10 H10 e10 s10 r => ?_
    obtain ⟨kp, rfl, hkn, _, rfl⟩ := r
    have hk10 : (upd B9 kp (.dK (nkv nm))) kp = some (.dK (nkv nm)) := upd_same
    have hn10 := e10 _ _ hnp
    have e10' := (e7'.trans e9).trans e10
    have hps10 : ∀ p ∈ ps, (upd B9 kp (.dK (nkv nm))) p.1 = some (.lst (p.2.map V.str)) := fun p hp => e10 _ _ (e9 _ _ (hps7 p hp))
    have hrp10 := e10 _ _ (e9 _ _ hrp7)
    have hl10 := e10 _ _ (e9 _ _ hl7)
    have ht10 := e10 _ _ (e9 _ _ ht7)
    have hg10 := e10 _ _ (e9 _ _ hg7)
    generalize (upd B9 kp (.dK (nkv nm))) = B10 at s10 hk10 hn10 e10' hps10 hrp10 hl10 ht10 hg10
    have fD : ∀ p ∈ nkv nm, flatS p.2 = true := fun p hp => by
      obtain ⟨q, _, rfl⟩ := List.mem_map.mp hp
      rfl
    have hkl : (nkv nm).length ≤ 10000 := by unfold nkv; rw [List.length_map]; omega
    refine q_forLB (B := B10) s10.ex (ev_var rfl) (sq_of hrp10) (fun i σ H11 => Sd B10 d H11 ∧ ∃ u6 u12 : Option V, σ = [some (.ref d), some (.bl g), some (.ref sp), some (.int (most : Int)), some (.ref rp), some (.ref lp), u6, u7, some (.ref tp), some (.ref gp), some (.ref np), some (.ref kp), u12, none]) (fun H11 e11 => ⟨s10.mono e11, _, _, rfl⟩) (fun i σ H11 q => q.1.ex) (fun i x σ H11 hx q => ?_) (fun σ H11 q => ?_)
    · obtain ⟨s11, u6, u12, rfl⟩ := q
      obtain ⟨p, hp, rfl⟩ := at_ps hx
      have hpm := hps p (List.mem_of_getElem? hp)
      have hp11 := s11.ex _ _ (hps10 p (List.mem_of_getElem? hp))
      have hk11 := s11.ex _ _ hk10
      have hn11 := s11.ex _ _ hn10
      have hws : p.2.length ≤ 200 := hpm.2.2.1
      have z3 : (" " : Str).length = 1 := rfl
      refine q_asg (v := .str (txt (p.2.map (lookS nm)))) (ev_joinL (ys := p.2.map (lookS nm)) ev_c (el_is (el_lcL (K := K) (xs := p.2.map V.str) (fun _ => true) (fun i => .str (lookS nm (p.2.getD i Str.empty))) (ev_var rfl) (sq_of hp11) (by rw [List.length_map]; omega) (fun x => rfl) (fun _ _ _ _ _ => yes_T) (fun j x H1 e1 hx _ => ?_)) ?_) ?_) fun H12 e12 => ?_
      · obtain ⟨hj, ex, hx2⟩ := at_str hx
        subst ex
        generalize p.2.getD j Str.empty = y
        refine ev_is (ev_get2 (k := Sum.inr y) (z := .str y) (ev_var rfl) (ev_var rfl) (ev_var rfl) (e1 _ _ hk11)) (look_nkv nm y)
      · rw [given_all fun _ _ => rfl, List.length_map, range_map (g := fun x : Str => V.str (lookS nm x)), List.map_map]
        rfl
      · have h1 := sum_le (ws := p.2.map (lookS nm)) (m := 30) fun x hx => by
          obtain ⟨y, hy, rfl⟩ := List.mem_map.mp hx
          exact look_len (fun q hq => (hnm q hq).2) (hpm.2.2.2 y hy).2.1
        rw [List.length_map] at h1 ⊢
        rw [z3]
        omega
      · have hp12 := e12 _ _ hp11
        refine s_when (b := false) (et_is (et_or (et_not (et_B (ev_same (v := .str (txt (p.2.map (lookS nm)))) (ev_call (ea_cons (ev_join (K := K) (ys := p.2) ev_c (ev_var rfl) (sq_of hp12) ?_) (ea_cons (ev_var rfl) ea_nil)) fun H1 e1 Q r E => ⟨np, nm, p.2, rfl, hpm.2.words, e1 _ _ (e12 _ _ hn11), fun q hq => (hnm q hq).2, r⟩) (ev_var rfl) rfl))) fun _ => et_not (et_B (ev_sameDD (ev_var rfl) (ev_var rfl) (e12 _ _ hn11) (e12 _ _ hk11) fD hkl))) rfl) (fun z => by cases z) (fun _ H13 e13 => ⟨(s11.mono e12).mono e13, _, _, rfl⟩)
        have z1 := sum_le (ws := p.2) (m := 30) fun x hx => (hpm.2.2.2 x hx).2.1
        rw [z3]
        omega
    · obtain ⟨s11, u6, u12, rfl⟩ := q
      have htl : (((ps.map (·.2)).map txt).map V.str).length ≤ 10000 := by rw [List.length_map, List.length_map, List.length_map]; omega
      exact s_ret (v := .bl true) (ev_andV (a := true) (b := true) (ev_sameLL (ev_var rfl) (ev_var rfl) (s11.ex _ _ hg10) (s11.ex _ _ ht10) (fS _) htl) fun _ => ev_sameUU (first B10 H11 8 tp _ _ s11.ex ht10 rfl) (eu_tupL (ev_var rfl) (sq_of (s11.ex _ _ hl10))) (fS _) hfl) fun H12 e12 => k _ B10 H12 e10' (s11.mono e12) rfl

end
end K00
-- D22
namespace K00
open PySem PySem.Spec PyProof.Rows L2 Evl KEv TL KDd KSq KD KSame KTxt LamX
/-! law -/
theorem tabs_hide {T : List (Addr × Str)} {H : Hp} {d : Addr} (h : Tabs T H) (hd : Dr H d) : Tabs T (hide H d) := fun p hp => by
  obtain ⟨xs, _, ed⟩ := hd
  obtain ⟨ps, h1, h2, h3⟩ := h p hp
  have n1 : p.1 ≠ d := fun z => by
    rw [z, ed] at h1
    cases h1
  refine ⟨ps, by rw [hide_ne n1]; exact h1, h2, fun pos cv hc => ?_⟩
  obtain ⟨c, e1, e2⟩ := h3 pos cv hc
  have n2 : c ≠ d := fun z => by
    rw [z, ed] at e2
    cases e2
  exact ⟨c, e1, by rw [hide_ne n2]; exact e2⟩
theorem dr_extN {H H' : Hp} {d : Addr} (h : Dr H d) (e : ExtN H H') : Dr H' d := by
  obtain ⟨xs, g, ed⟩ := h
  exact ⟨xs, g, e _ _ ed fun ps z => by cases z⟩
section
variable {σ : L2.St} {B H : Hp} {d : Addr} {te : TE} {tt : TT} {tw tz : TS} {D : Ends}
theorem egt_notT (h : EvG te σ B d fun v _ => v = .bl true) : EvGT (tNot (tB te)) σ B d fun b _ => b = false := fun H s Q q => h H s _ fun v B' H' e s' r => ⟨true, r, q _ B' H' e s' rfl⟩
theorem gq_when (h : EvGT tt σ B d fun b _ => b = false) (s : Sd B d H) (k : ∀ B' H', Ex B B' → Sd B' d H' → tz D σ H') : tSeq (tIfS tt tw tNext) tz D σ H := h H s _ fun b B' H' e s' r => by
  subst r
  exact k B' H' e s'
theorem g_when (h : EvGT tt σ B d fun b _ => b = false) (s : Sd B d H) (k : ∀ B' H', Ex B B' → Sd B' d H' → D.nx σ H') : tIfS tt tw tNext D σ H := h H s _ fun b B' H' e s' r => by
  subst r
  exact k B' H' e s'
end
def spLaw (K : PySem.W.Frag) (tb : Addr) : Sp := fun vs H Q _ => ∃ (a : Addr) (ns : List Int), vs = [.ref a] ∧ SqL K H a (ns.map V.int) ∧ Tabs [(tb, lamQ)] H ∧ ∀ H', Q (.bl true) H'
theorem scLaw : FnScope ["script", "draws", "great", "k"] ["script"] (defScope (topS 29)) := ⟨rfl, rfl, rfl, by decide +kernel, rfl, by decide +kernel, by decide +kernel⟩
section
variable {P : Program} {w : World} {K : PySem.W.Frag} {mg : Str → Option Value} {base : Heap}
theorem ok_law {f fdr ft fto fl ftx frw frt ftt tb : Addr} {fd fddr fdt fdto fdl fdtx fdrw fdrt fdtt : FuncData} (D : DefAt K mg 29 "law" ["script"] f fd) (DR : GenAt P w K mg base 1 "_law_draws" ["script", "first", "cells"] (spDraws K) fdr fddr) (T : GenAt P w K mg base 1 "_law_take" ["draws", "many"] spTake ft fdt) (TO : GenAt P w K mg base 3 "_law_text_told" ["draws", "text"] spTold fto fdto)
    (L : GenAt P w K mg base 2 "_law_letter" ["draws", "many"] spLetter fl fdl) (TX : GenAt P w K mg base 3 "_law_text" ["draws", "great"] spText ftx fdtx) (RW : GenAt P w K mg base 3 "_law_row" ["draws", "great"] spRow frw fdrw) (RT : GenAt P w K mg base 5 "_law_row_told" ["row"] (spRT tb) frt fdrt) (TT : GenAt P w K mg base 4 "_law_terms_told" ["draws", "great"] spTT ftt fdtt) (mr : mg "range" = none) : FnOk P w K mg base CX0 6 f fd ["script"] (spLaw K tb) := by
  refine D.F.ok scLaw (fun vs H Q E h => ?_) (fun cdv A outer s H vs Q E hr h => ?_)
  · obtain ⟨a, ns, rfl, _⟩ := h
    rfl
  · obtain ⟨a, ns, rfl, hS, hT, k⟩ := h
    refine ⟨_, (pss_cons (ps_asg (pe_call DR.F (hr.mono (by decide)) (by rfl) DR.g DR.kp DR.b .nil pass0 (pa_cons (pv 0) (pa_cons pe_int (pa_cons pe_int pa_nil)))) (pg_name (i := 1) scLaw.nd rfl (.inl rfl))) (pss_cons (ps_asg (pe_cmpR op_eq (pe_call T.F (hr.mono (by decide)) (by rfl) T.g T.kp T.b .nil pass0 (pa_cons (pv 1) (pa_cons pe_int pa_nil))) pe_int (nomark _)) (pg_name (i := 2) scLaw.nd rfl (.inl rfl))) (pss_cons (ps_if (pt_not (pt_val (pe_call TO.F (hr.mono (by decide)) (by rfl) TO.g TO.kp TO.b .nil pass0 (pa_cons (pv 1) (pa_cons (pe_op op_addS (pe_ix ix_str (pe_call L.F (hr.mono (by decide)) (by rfl) L.g L.kp L.b .nil pass0 (pa_cons (pv 1) (pa_cons pe_int pa_nil))) pe_int (fun _ _ => rfl)) pe_str) pa_nil))))) pss_never pss_nil) (pss_cons (ps_for PassesOwn.never rfl (pi_range1 (by rfl) mr (pa_cons pe_int pa_nil)) (pg_name (i := 3) scLaw.nd rfl (.inl rfl)) (pss_one (ps_if (pt_not (pt_val (pe_call TO.F (hr.mono (by decide)) (by rfl) TO.g TO.kp TO.b .nil pass0 (pa_cons (pv 1) (pa_cons (pe_call TX.F (hr.mono (by decide)) (by rfl) TX.g TX.kp TX.b .nil pass0 (pa_cons (pv 1) (pa_cons (pv 2) pa_nil))) pa_nil))))) pss_never pss_nil))) (pss_cons (ps_for PassesOwn.never rfl (pi_range1 (by rfl) mr (pa_cons pe_int pa_nil)) (pg_name (i := 3) scLaw.nd rfl (.inl rfl)) (pss_one (ps_if (pt_not (pt_val (pe_call RT.F (hr.mono (by decide)) (by rfl) RT.g RT.kp RT.b .nil pass0 (pa_cons (pe_call RW.F (hr.mono (by decide)) (by rfl) RW.g RW.kp RW.b .nil pass0 (pa_cons (pv 1) (pa_cons (pv 2) pa_nil))) pa_nil)))) pss_never pss_nil))) (pss_one (ps_ret (pe_call TT.F (hr.mono (by decide)) (by rfl) TT.g TT.kp TT.b .nil pass0 (pa_cons (pv 1) (pa_cons (pv 2) pa_nil)))))))))), ?_⟩
    refine ⟨.ref a, rfl, a, ns, rfl, hS, fun d H2 xs hd0 e2 h2 gd => ?_⟩
    have dr2 : Dr H2 d := ⟨xs, gd, h2⟩
    have T2 := tabs_hide (hT.ext e2) dr2
    refine gq_asg (B := hide H2 d) (d := d) (R := fun v _ => ∃ b, v = .bl b) (eg_opW (Rb := fun v _ => ∃ n : Nat, v = .int (n : Int) ∧ (n : Int) < 8) (eg_takeN (m := 8) (ev_var rfl) ev_c (by decide)) (fun _ _ _ _ => ev_c) fun v _ _ r => ?_) (Sd.of dr2) fun v B3 H3 e3 s3 r => ?_
    · obtain ⟨n, rfl, _⟩ := r
      exact ⟨_, rv_eq rfl, _, rfl⟩
    obtain ⟨g, rfl⟩ := r
    have T3 := T2.ext e3
    have told : ∀ (B : Hp) (σ : L2.St) (te : TE) (E : XK), σ[1]? = some (some (.ref d)) → EvG te σ B d (fun v _ => ∃ x : Str, v = .str x ∧ x.length ≤ 1000) → EvG (tCall spTold [] E (tCons (tVar 1) (tCons te tNil))) σ B d fun v _ => v = .bl true := fun B σ te E hσ h =>
      eg_call1 (ev_var hσ) h (fun v _ _ _ r _ => by
        obtain ⟨x, rfl, hx⟩ := r
        exact ⟨x, rfl, hx⟩) fun v u _ _ _ _ _ c => c
    refine gq_when (B := B3) (d := d) (egt_notT (told B3 _ _ _ rfl (eg_opW (Rb := fun v _ => ∃ c, v = .str ⟨#[c]⟩) (eg_opW (Rb := fun v _ => ∃ x : Str, v = .str x ∧ IsLet x ∧ x.length ≤ 2) (eg_letter (n := 1) (ev_var rfl) (EvG.sd (eg_ev ev_c) fun v _ r => ⟨1, r, by omega, by omega⟩) (by decide)) (fun _ _ _ _ => ev_c) fun v _ _ r => ?_) (fun _ _ _ _ => ev_c) fun v _ _ r => ?_))) s3 fun B4 H4 e4 s4 => ?_
    · obtain ⟨x, rfl, hx, hl⟩ := r
      exact ⟨_, rv_ixS (by omega) (c := capOf x) (by rw [show x.cps.toList = capOf x :: numL (numOf x) from hx.shape]; exact atI_nat (j := 0) rfl), _, rfl⟩
    · obtain ⟨c, rfl⟩ := r
      have h0 : ("0" : Str).length = 1 := rfl
      exact ⟨_, rv_addS (by rw [len_one]; omega), _, rfl, by rw [len_app, len_one]; omega⟩
    have T4 := T3.ext e4
    refine g_range (n := 8) (B := B4) (d := d) (ea_cons ev_c ea_nil) s4 (by decide) (fun i σ H5 => ∃ (B5 : Hp) (u : Option V), Sd B5 d H5 ∧ Tabs [(tb, lamQ)] B5 ∧ σ = [some (.ref a), some (.ref d), some (.bl g), u]) (fun H5 s5 => ⟨B4, _, s5, T4, rfl⟩) (fun i σ H5 hi q => ?_) (fun σ H5 q => ?_)
    · obtain ⟨B5, u, s5, T5, rfl⟩ := q
      refine g_when (egt_notT (told B5 _ _ _ rfl (eg_call1 (ev_var rfl) (eg_ev (v := .bl g) (ev_var rfl)) (fun v _ _ _ r _ => ⟨g, by rw [r]⟩) fun v u _ _ _ _ _ c => c))) s5 fun B6 H6 e6 s6 => ⟨B6, _, s6, T5.ext e6, rfl⟩
    obtain ⟨B5, u, s5, T5, rfl⟩ := q
    refine g_range (n := 2) (B := B5) (d := d) (ea_cons ev_c ea_nil) s5 (by decide) (fun i σ H5 => ∃ (B5 : Hp) (u : Option V), Sd B5 d H5 ∧ Tabs [(tb, lamQ)] B5 ∧ σ = [some (.ref a), some (.ref d), some (.bl g), u]) (fun H5 s5 => ⟨B5, _, s5, T5, rfl⟩) (fun i σ H5 hi q => ?_) (fun σ H5 q => ?_)
    · obtain ⟨B5, u, s5, T5, rfl⟩ := q
      have hrow : EvG (tCall spRow [] E0 (tCons (tVar 1) (tCons (tVar 2) tNil))) [some (.ref a), some (.ref d), some (.bl g), some (.int (i : Int))] B5 d fun v B => ∃ p, ∃ ss : List Str, v = .ref p ∧ B p = some (.lst (ss.map V.str)) ∧ (∀ x ∈ ss, RowOk x) ∧ ss.length ≤ 50 := eg_call1 (ev_var rfl) (eg_ev (v := .bl g) (ev_var rfl)) (fun v _ _ _ r _ => ⟨g, by rw [r]⟩) fun v u _ _ _ _ _ c => c
      refine hrow H5 s5 _ fun v B6 H6 e6 s6 r => ?_
      obtain ⟨p, ss, rfl, hp, hss, hl⟩ := r
      refine ⟨p, ss, rfl, s6.ex _ _ hp, hss, hl, (T5.ext e6).ext s6.ex, fun H7 eN T7 => ⟨true, rfl, ?_⟩⟩
      have dr7 := dr_extN s6.dr eN
      exact ⟨hide H7 d, _, Sd.of dr7, tabs_hide T7 dr7, rfl⟩
    obtain ⟨B6, u, s6, T6, rfl⟩ := q
    refine g_ret (R := fun v _ => v = .bl true) (eg_call1 (ev_var rfl) (eg_ev (v := .bl g) (ev_var rfl)) (fun v _ _ _ r _ => ⟨g, by rw [r]⟩) fun v u _ _ _ _ _ c => c) s6 fun v B7 H7 e7 s7 r => ?_
    rw [r]
    exact k H7

end
end K00
-- D23
namespace K00
open PySem PySem.Spec PyProof.Rows L2 LamX
/-! what the top has written -/
/-- a def that the top has written: found, as it stands -/
structure Wrt (K : PySem.W.Frag) (i : Nat) (x : Str) (f : Addr) (fd : FuncData) : Prop where
  a : PySem.W.nsIn K mainGlobals x = some (some (.ref f))
  l : ∃ (oc : Value) (od : Option Addr) (kV doc pm : Value) (an : Option Addr) (cdv ct : Value) (osl : Array (Option Value)), fd = PySem.W.fnOf x x (defArgs (topS i)) (defBody (topS i)) (defScope (topS i)) .none kV doc pm an cdv ct ∧ K.lookup f = some ⟨oc, od, .func fd, osl⟩ ∧ PySem.W.codeIn K cdv x = true
  k : PySem.W.keepIn K (.ref f) = true
/-- the fields of a code object whose table stands at P -/
def CodeShape (vs : Array Value) (c P : Addr) : Bool := (match (vs[11]? : Option Value) with | some (.ref P2) => P2 == P | _ => false) && (match vs.getD 18 .none with | .str _ _ => true | _ => false) &&
  (match vs.getD 7 .none with | .int _ _ => true | _ => false) && (match vs.getD 9 .none with | .bool _ => true | _ => false) && (match vs.getD 10 .none with | .int _ _ => true | _ => false) && c != P
theorem codeShape {K : PySem.W.Frag} {c P : Addr} {od : Option Addr} {vs : Array Value} {sl : Array (Option Value)} (l : K.lookup c = some ⟨.type "code", od, .fields vs, sl⟩) (h : CodeShape vs c P = true) : PySem.W.codeHdIn K c P = true := by
  unfold PySem.W.codeHdIn
  rw [l]
  exact h
theorem Wrt.at_ {K : PySem.W.Frag} {h : Heap} {mg : Str → Option Value} {i : Nat} {x : Str} {ps : List Str} {f : Addr} {fd : FuncData} (W : Wrt K i x f fd) (X : K.In h) (G : h.Ns mainGlobals mg)
    (hb : ∀ (kV doc pm : Value) (an : Option Addr) (cdv ct : Value) (us : List Value), us.length = ps.length → bindArgs (PySem.W.fnOf x x (defArgs (topS i)) (defBody (topS i)) (defScope (topS i)) .none kV doc pm an cdv ct) ⟨us, []⟩ = pure (ps.zip us)) : DefAt K mg i x ps f fd := by
  have F : Fun K x x (topS i) f fd := ⟨W.l, W.k⟩
  exact ⟨F, PySem.W.mg_of X G W.a, F.binds hb⟩

theorem all_mk {l : PySem.W.OpenLaw} {w : World} {K : PySem.W.Frag} {h : Heap} {mg : Str → Option Value} {fa cd tb f5 f4 f6 f7 f8 f9 f10 f11 f13 f14 f15 f16 f17 f18 f19 f20 f21 f22 f23 f24 f25 f26 f27 f28 f29 : Addr} {d4 d6 d7 d8 d9 d10 d11 d13 d14 d15 d16 d17 d18 d19 d20 d21 d22 d23 d24 d25 d26 d27 d28 d29 : FuncData} {t1 t2 t3 t9 : Tok} {tp : Addr} {od5 an5 odT odC : Option Addr} {sl5 slT slC : Array (Option Value)} {oc5 kV5 dc5 pm5 cd5 ct5 : Value} {nT : Nat} {vsC : Array Value} (X : K.In h) (G : h.Ns mainGlobals mg) (hfa : mg "law" = some (.ref fa))
    (w4 : Wrt K 4 "is_name" f4 d4)
    (w6 : Wrt K 6 "letter_key" f6 d6)
    (w7 : Wrt K 7 "in_order" f7 d7)
    (w8 : Wrt K 8 "first_letters" f8 d8)
    (w9 : Wrt K 9 "free_number" f9 d9)
    (w10 : Wrt K 10 "renamed" f10 d10)
    (w11 : Wrt K 11 "canonical_names" f11 d11)
    (w13 : Wrt K 13 "_law_draws" f13 d13)
    (w14 : Wrt K 14 "_law_take" f14 d14)
    (w15 : Wrt K 15 "_law_same" f15 d15)
    (w16 : Wrt K 16 "_law_character" f16 d16)
    (w17 : Wrt K 17 "_law_small" f17 d17)
    (w18 : Wrt K 18 "_law_letter" f18 d18)
    (w19 : Wrt K 19 "_law_text" f19 d19)
    (w20 : Wrt K 20 "_law_is_name" f20 d20)
    (w21 : Wrt K 21 "_law_is_letter" f21 d21)
    (w22 : Wrt K 22 "_law_text_told" f22 d22)
    (w23 : Wrt K 23 "_law_row" f23 d23)
    (w24 : Wrt K 24 "_law_row_told" f24 d24)
    (w25 : Wrt K 25 "_law_signs" f25 d25)
    (w26 : Wrt K 26 "_law_term" f26 d26)
    (w27 : Wrt K 27 "_law_names" f27 d27)
    (w28 : Wrt K 28 "_law_terms_told" f28 d28)
    (w29 : Wrt K 29 "law" f29 d29)
    (z_len : PySem.W.nsIn K mainGlobals "len" = some none)
    (z_int : PySem.W.nsIn K mainGlobals "int" = some none)
    (z_abs : PySem.W.nsIn K mainGlobals "abs" = some none)
    (z_sum : PySem.W.nsIn K mainGlobals "sum" = some none)
    (z_range : PySem.W.nsIn K mainGlobals "range" = some none)
    (z_sorted : PySem.W.nsIn K mainGlobals "sorted" = some none)
    (z_list : PySem.W.nsIn K mainGlobals "list" = some none)
    (z_tuple : PySem.W.nsIn K mainGlobals "tuple" = some none)
    (z_max : PySem.W.nsIn K mainGlobals "max" = some none)
    (z_enumerate : PySem.W.nsIn K mainGlobals "enumerate" = some none)
    (z_str : PySem.W.nsIn K mainGlobals "str" = some none)
    (z_isinstance : PySem.W.nsIn K mainGlobals "isinstance" = some none)
    (z_bool : PySem.W.nsIn K mainGlobals "bool" = some none)
    (z_dict : PySem.W.nsIn K mainGlobals "dict" = some none)
    (z_reversed : PySem.W.nsIn K mainGlobals "reversed" = some none)
    (s1 : PySem.W.nsIn K mainGlobals "SMALL" = some (some (.str small t1))) (s2 : PySem.W.nsIn K mainGlobals "DIGITS" = some (some (.str digits t2))) (s3 : PySem.W.nsIn K mainGlobals "CAPITALS" = some (some (.str capitals t3)))
    (a5 : PySem.W.nsIn K mainGlobals "is_letter" = some (some (.ref f5))) (l5 : K.lookup f5 = some ⟨oc5, od5, .func (PySem.W.fnOf "is_letter" "is_letter" (defArgs (topS 5)) (defBody (topS 5)) (defScope (topS 5)) (.ref tp) kV5 dc5 pm5 an5 cd5 ct5), sl5⟩)
    (lT : K.lookup tp = some ⟨.type "tuple", odT, .seq #[.int 9 t9] nT, slT⟩) (c5 : PySem.W.codeIn K cd5 "is_letter" = true) (k5 : PySem.W.keepIn K (.ref f5) = true)
    (hcd : d24.code = .ref cd) (lc : K.lookup cd = some ⟨.type "code", odC, .fields vsC, slC⟩) (hvs : CodeShape vsC cd tb = true) (hkt : K.lookup tb = none) (hT : h.get? tb = some { cls := .none, data := .fields #[] }) :
    LawAtS l w K CX0 6 63 "script" mg fa h := by
  have D4 := w4.at_ (ps := ["text"]) X G fun _ _ _ _ _ _ us hl => match us, hl with | [_], _ => rfl
  have D6 := w6.at_ (ps := ["letter"]) X G fun _ _ _ _ _ _ us hl => match us, hl with | [_], _ => rfl
  have D7 := w7.at_ (ps := ["letters"]) X G fun _ _ _ _ _ _ us hl => match us, hl with | [_], _ => rfl
  have D8 := w8.at_ (ps := ["texts"]) X G fun _ _ _ _ _ _ us hl => match us, hl with | [_], _ => rfl
  have D9 := w9.at_ (ps := ["letters"]) X G fun _ _ _ _ _ _ us hl => match us, hl with | [_], _ => rfl
  have D10 := w10.at_ (ps := ["text", "names"]) X G fun _ _ _ _ _ _ us hl => match us, hl with | [_, _], _ => rfl
  have D11 := w11.at_ (ps := ["letters"]) X G fun _ _ _ _ _ _ us hl => match us, hl with | [_], _ => rfl
  have D13 := w13.at_ (ps := ["script", "first", "cells"]) X G fun _ _ _ _ _ _ us hl => match us, hl with | [_, _, _], _ => rfl
  have D14 := w14.at_ (ps := ["draws", "many"]) X G fun _ _ _ _ _ _ us hl => match us, hl with | [_, _], _ => rfl
  have D15 := w15.at_ (ps := ["told", "due"]) X G fun _ _ _ _ _ _ us hl => match us, hl with | [_, _], _ => rfl
  have D16 := w16.at_ (ps := ["draws"]) X G fun _ _ _ _ _ _ us hl => match us, hl with | [_], _ => rfl
  have D17 := w17.at_ (ps := ["draws", "many"]) X G fun _ _ _ _ _ _ us hl => match us, hl with | [_, _], _ => rfl
  have D18 := w18.at_ (ps := ["draws", "many"]) X G fun _ _ _ _ _ _ us hl => match us, hl with | [_, _], _ => rfl
  have D19 := w19.at_ (ps := ["draws", "great"]) X G fun _ _ _ _ _ _ us hl => match us, hl with | [_, _], _ => rfl
  have D20 := w20.at_ (ps := ["text"]) X G fun _ _ _ _ _ _ us hl => match us, hl with | [_], _ => rfl
  have D21 := w21.at_ (ps := ["text", "many"]) X G fun _ _ _ _ _ _ us hl => match us, hl with | [_, _], _ => rfl
  have D22 := w22.at_ (ps := ["draws", "text"]) X G fun _ _ _ _ _ _ us hl => match us, hl with | [_, _], _ => rfl
  have D23 := w23.at_ (ps := ["draws", "great"]) X G fun _ _ _ _ _ _ us hl => match us, hl with | [_, _], _ => rfl
  have D24 := w24.at_ (ps := ["row"]) X G fun _ _ _ _ _ _ us hl => match us, hl with | [_], _ => rfl
  have D25 := w25.at_ (ps := ["draws"]) X G fun _ _ _ _ _ _ us hl => match us, hl with | [_], _ => rfl
  have D26 := w26.at_ (ps := ["draws", "signs", "kind", "budget"]) X G fun _ _ _ _ _ _ us hl => match us, hl with | [_, _, _, _], _ => rfl
  have D27 := w27.at_ (ps := ["draws", "letters"]) X G fun _ _ _ _ _ _ us hl => match us, hl with | [_, _], _ => rfl
  have D28 := w28.at_ (ps := ["draws", "great"]) X G fun _ _ _ _ _ _ us hl => match us, hl with | [_, _], _ => rfl
  have D29 := w29.at_ (ps := ["script"]) X G fun _ _ _ _ _ _ us hl => match us, hl with | [_], _ => rfl
  have F5 : LetD K f5 (PySem.W.fnOf "is_letter" "is_letter" (defArgs (topS 5)) (defBody (topS 5)) (defScope (topS 5)) (.ref tp) kV5 dc5 pm5 an5 cd5 ct5) := ⟨⟨_, _, _, _, _, _, _, _, _, _, rfl, l5, c5, .inr ⟨by simp, tp, _, [.int 9 t9], nT, rfl, lT, rfl, .cons ⟨_, rfl⟩ .nil⟩, .inl rfl⟩, k5⟩
  have e := hfa.symm.trans D29.g
  cases e
  have m_len := PySem.W.mg_none_of X G z_len
  have m_int := PySem.W.mg_none_of X G z_int
  have m_abs := PySem.W.mg_none_of X G z_abs
  have m_sum := PySem.W.mg_none_of X G z_sum
  have m_range := PySem.W.mg_none_of X G z_range
  have m_sorted := PySem.W.mg_none_of X G z_sorted
  have m_list := PySem.W.mg_none_of X G z_list
  have m_tuple := PySem.W.mg_none_of X G z_tuple
  have m_max := PySem.W.mg_none_of X G z_max
  have m_enumerate := PySem.W.mg_none_of X G z_enumerate
  have m_str := PySem.W.mg_none_of X G z_str
  have m_isinstance := PySem.W.mg_none_of X G z_isinstance
  have m_bool := PySem.W.mg_none_of X G z_bool
  have m_dict := PySem.W.mg_none_of X G z_dict
  have m_reversed := PySem.W.mg_none_of X G z_reversed
  have N : Nm mg := ⟨m_len, ⟨_, PySem.W.mg_of X G s1⟩, ⟨_, PySem.W.mg_of X G s2⟩, ⟨_, PySem.W.mg_of X G s3⟩⟩
  have M : NmS mg := ⟨m_isinstance, m_bool, m_int, m_str, m_dict, m_tuple, m_list, m_range⟩
  refine ⟨d29, [(cd, tb)], spLaw K tb, fun p hp => ?_, fun p hp => ?_, fun p hp => ?_, fun s v => ?_, fun H a ns _ _ hH hS => ?_, fun base _ _ hTB => ?_⟩
  · rw [List.mem_singleton.mp hp]
    exact hT
  · rw [List.mem_singleton.mp hp]
    exact hkt
  · rw [List.mem_singleton.mp hp]
    exact PySem.W.codeHd_of_K X (codeShape lc hvs)
  · obtain ⟨oc, od, kV, doc, pm, an, cdv, ct, osl, rfl, _⟩ := w29.l
    exact .of_eq rfl
  · refine ⟨a, ns, rfl, hS, fun p hp => ?_, fun _ => rfl⟩
    rw [List.mem_singleton.mp hp]
    exact TabS.nil (hH (cd, tb) List.mem_cons_self)
  · have TB := hTB (cd, tb) List.mem_cons_self
    have T := D14.gen (ok_take (P := l.prog) (w := w) (base := base) D14 N m_int)
    have SM := D15.gen (ok_same (P := l.prog) (w := w) (base := base) D15 N M)
    have C := D16.gen (ok_char (P := l.prog) (w := w) (base := base) D16 T N)
    have S := D17.gen (ok_small (P := l.prog) (w := w) (base := base) D17 T m_range m_int)
    have L := D18.gen (ok_letter (P := l.prog) (w := w) (base := base) D18 T m_range)
    have TX := D19.gen (ok_text (P := l.prog) (w := w) (base := base) D19 T S L C N m_range)
    have NA := D4.gen (ok_is_name (P := l.prog) (w := w) (base := base) D4 N)
    have LET : LetAt l.prog w K mg base f5 _ := ⟨ok_is_letter F5 N, PySem.W.mg_of X G a5, F5.kp, F5⟩
    have LA := D20.gen (ok_law_is_name (P := l.prog) (w := w) (base := base) D20 N)
    have LL := D21.gen (ok_law_is_letter (P := l.prog) (w := w) (base := base) D21 N)
    have TO := D22.gen (ok_told (P := l.prog) (w := w) (base := base) D22 T NA LET SM LA LL N m_max)
    have RW := D23.gen (ok_row (P := l.prog) (w := w) (base := base) D23 T L N m_range)
    have IO := D7.gen (ok_in_order (P := l.prog) (w := w) (base := base) D7 D6 m_int m_sorted m_list)
    have FN := D9.gen (ok_free (P := l.prog) (w := w) (base := base) D9 m_int m_max)
    have CN := D11.gen (ok_canon (P := l.prog) (w := w) (base := base) D11 m_enumerate m_str)
    have RT := D24.gen (ok_row_told (P := l.prog) (w := w) (base := base) D24 hcd TB SM IO FN CN N M m_sorted m_max)
    have SG := D25.gen (ok_signs (P := l.prog) (w := w) (base := base) D25 T L S m_range)
    have TM := D26.gen (ok_term (P := l.prog) (w := w) (base := base) D26 T N m_range m_reversed m_str)
    have NM := D27.gen (ok_names (P := l.prog) (w := w) (base := base) D27 T N m_range m_str)
    have FL := D8.gen (ok_first (P := l.prog) (w := w) (base := base) D8 N m_tuple)
    have RN := D10.gen (ok_renamed (P := l.prog) (w := w) (base := base) D10)
    have TT := D28.gen (ok_tt (P := l.prog) (w := w) (base := base) D28 T SG TM NM FL RN SM M)
    have DR := D13.gen (ok_draws (P := l.prog) (w := w) (base := base) D13 N m_int m_abs m_sum m_range)
    exact ok_law D29 DR T TO L TX RW RT TT m_range
end K00
-- Fin
open PySem PySem.W PyProof.Rows
set_option maxHeartbeats 0 in
theorem PySem.Challenge.cw_rulesonrules_k00_names_letters_and_texts_holds : PySem.Challenge.rw_rulesonrules_k00_names_letters_and_texts.Holds := by
  w_on; o_law; k_head; (case hw => w_witness2)
  k_fill
  refine LamX.walk_ofTs (l := PySem.Challenge.rw_rulesonrules_k00_names_letters_and_texts) (n := 63) (k := 6) (x := "script") (CX := fun _ => L2.CX0) rfl (by decide) rfl ⟨rfl, by decide, by decide⟩ (fun w h Y => PySem.W.km_in_of Y) ?F (fun _ _ _ _ _ h => h)
  case F =>
    intro w mg fa h Y KX G hmg
    refine' K00.all_mk KX G hmg ?w4 ?w6 ?w7 ?w8 ?w9 ?w10 ?w11 ?w13 ?w14 ?w15 ?w16 ?w17 ?w18 ?w19 ?w20 ?w21 ?w22 ?w23 ?w24 ?w25 ?w26 ?w27 ?w28 ?w29 ?z_len ?z_int ?z_abs ?z_sum ?z_range ?z_sorted ?z_list ?z_tuple ?z_max ?z_enumerate ?z_str ?z_isinstance ?z_bool ?z_dict ?z_reversed ?s1 ?s2 ?s3 ?a5 ?l5 ?lT ?c5 ?k5 ?hcd ?lc ?hvs ?hkt ?hT
    (case w4 => exact ⟨by k_is, ⟨_, _, _, _, _, _, _, _, _, rfl, by k_is, by k_is⟩, by k_is⟩)
    (case w6 => exact ⟨by k_is, ⟨_, _, _, _, _, _, _, _, _, rfl, by k_is, by k_is⟩, by k_is⟩)
    (case w7 => exact ⟨by k_is, ⟨_, _, _, _, _, _, _, _, _, rfl, by k_is, by k_is⟩, by k_is⟩)
    (case w8 => exact ⟨by k_is, ⟨_, _, _, _, _, _, _, _, _, rfl, by k_is, by k_is⟩, by k_is⟩)
    (case w9 => exact ⟨by k_is, ⟨_, _, _, _, _, _, _, _, _, rfl, by k_is, by k_is⟩, by k_is⟩)
    (case w10 => exact ⟨by k_is, ⟨_, _, _, _, _, _, _, _, _, rfl, by k_is, by k_is⟩, by k_is⟩)
    (case w11 => exact ⟨by k_is, ⟨_, _, _, _, _, _, _, _, _, rfl, by k_is, by k_is⟩, by k_is⟩)
    (case w13 => exact ⟨by k_is, ⟨_, _, _, _, _, _, _, _, _, rfl, by k_is, by k_is⟩, by k_is⟩)
    (case w14 => exact ⟨by k_is, ⟨_, _, _, _, _, _, _, _, _, rfl, by k_is, by k_is⟩, by k_is⟩)
    (case w15 => exact ⟨by k_is, ⟨_, _, _, _, _, _, _, _, _, rfl, by k_is, by k_is⟩, by k_is⟩)
    (case w16 => exact ⟨by k_is, ⟨_, _, _, _, _, _, _, _, _, rfl, by k_is, by k_is⟩, by k_is⟩)
    (case w17 => exact ⟨by k_is, ⟨_, _, _, _, _, _, _, _, _, rfl, by k_is, by k_is⟩, by k_is⟩)
    (case w18 => exact ⟨by k_is, ⟨_, _, _, _, _, _, _, _, _, rfl, by k_is, by k_is⟩, by k_is⟩)
    (case w19 => exact ⟨by k_is, ⟨_, _, _, _, _, _, _, _, _, rfl, by k_is, by k_is⟩, by k_is⟩)
    (case w20 => exact ⟨by k_is, ⟨_, _, _, _, _, _, _, _, _, rfl, by k_is, by k_is⟩, by k_is⟩)
    (case w21 => exact ⟨by k_is, ⟨_, _, _, _, _, _, _, _, _, rfl, by k_is, by k_is⟩, by k_is⟩)
    (case w22 => exact ⟨by k_is, ⟨_, _, _, _, _, _, _, _, _, rfl, by k_is, by k_is⟩, by k_is⟩)
    (case w23 => exact ⟨by k_is, ⟨_, _, _, _, _, _, _, _, _, rfl, by k_is, by k_is⟩, by k_is⟩)
    (case w24 => exact ⟨by k_is, ⟨_, _, _, _, _, _, _, _, _, rfl, by k_is, by k_is⟩, by k_is⟩)
    (case w25 => exact ⟨by k_is, ⟨_, _, _, _, _, _, _, _, _, rfl, by k_is, by k_is⟩, by k_is⟩)
    (case w26 => exact ⟨by k_is, ⟨_, _, _, _, _, _, _, _, _, rfl, by k_is, by k_is⟩, by k_is⟩)
    (case w27 => exact ⟨by k_is, ⟨_, _, _, _, _, _, _, _, _, rfl, by k_is, by k_is⟩, by k_is⟩)
    (case w28 => exact ⟨by k_is, ⟨_, _, _, _, _, _, _, _, _, rfl, by k_is, by k_is⟩, by k_is⟩)
    (case w29 => exact ⟨by k_is, ⟨_, _, _, _, _, _, _, _, _, rfl, by k_is, by k_is⟩, by k_is⟩)
    (case z_len => k_is)
    (case z_int => k_is)
    (case z_abs => k_is)
    (case z_sum => k_is)
    (case z_range => k_is)
    (case z_sorted => k_is)
    (case z_list => k_is)
    (case z_tuple => k_is)
    (case z_max => k_is)
    (case z_enumerate => k_is)
    (case z_str => k_is)
    (case z_isinstance => k_is)
    (case z_bool => k_is)
    (case z_dict => k_is)
    (case z_reversed => k_is)
    (case s1 => k_is)
    (case s2 => k_is)
    (case s3 => k_is)
    (case a5 => k_is)
    (case l5 => k_is)
    (case lT => k_is)
    (case c5 => k_is)
    (case k5 => k_is)
    (case hcd => rfl)
    (case lc => k_is)
    (case hT => exact PySem.W.km_tabs_of Y _ List.mem_cons_self)
    (case hvs => rfl)
    (case hkt => rfl)
#print axioms PySem.Challenge.cw_rulesonrules_k00_names_letters_and_texts_holds
